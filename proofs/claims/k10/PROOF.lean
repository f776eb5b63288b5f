import PyProof.Rows.All
import Wide.All
import OpenK.AllK
import Wide.FinOn
import HandS.ExcInit
import HandS.ExcIs
import HandS.ExcField
import HandS.WordsExc
import HandS.ForMost
import HandS.Exc
import HandS.EndBits
import KE.KDictKeyed
import HandS.Lambda
import HandS.Wide
import HandS.TupAny
import HandS.TupMul
import HandS.Deep
import HandS.FStr
import HandS.RaiseMore
import HandS.IsInst
import HandS.ExcOwn
import HandS.Comp
import PyProof.CallFns
import HandS.Dict
import HandS.Small
import HandS.WordsDict
import KE.SortData
import PyProof.Rows.SortWalk
import HandS.Conv
import HandS.More
import KE.KDictSum
import PyProof.TupleOfSeq
import KE.KCallOwn
import HandS.ExcValue
import PyProof.StrOps2
import PyProof.ReprRoads
import HandS.Text
import HandS.StrMore
import PyProof.Rows.RuleB_pow
import HandS.Zip
import HandS.TupLe
import HandS.Strs
import HandS.Style
import HandS.Set
import HandS.SetFor
import KE.OsSortAny
import KE.KRevSl
import PyProof.ListRange
import PyProof.StrWalks
import HandS.Sort
import HandS.TupSets
import KE.KDictPairs
import KE.KDictZip
import KE.KDictItemsList
import KE.DataMinMax
import HandS.OwnEq
import HandS.Defaults
import KE.DataCmp
import PyProof.AutoSeq1
import KE.KIntText
import PyProof.Rows.Digits
import KE.GoesEnumKw
import HandS.CallLocal
import HandS.ListItems
import HandS.TryMany
import KE.KEqNest
import HandS.EndTab
import HandS.EndOwn
import KE.KDictDisplayH
import KE.KeyNested
import KE.KDictCopyH
import KE.KItemsList
import PyProof.DictUpdate
import HandS.NoneIn
import PyProof.Rows.StrCut
import PyProof.StrLawsChain
import KE.SortLaws
import PyProof.ReprLen
import PySem.Challenge.RW_lotgivers_k10_by_names_of_one_and_two
set_option Elab.async false
set_option linter.all false
set_option maxRecDepth 100000
set_option maxHeartbeats 4000000
/-! an own exception class over ValueError, made with keywords -/
namespace PySem.MPX
open PySem PySem.Spec PySem.HandSPX
section
variable {prog : Program} {w : World} {M : Model} {A : Around} {E : Value → Shared → Prop} {R : Result → Shared → Prop} {h : Heap} {g : Array GenState} {d : Drawn} {t : Nat} {os : OsState}
variable {nm q : Str} {C N : Addr} {bs bm bmB : List Value} {hdct : Bool} {sn : List Str} {sub : List Value} {ab : Bool} {col : Option Bool} {dd : Option Addr} {k0 k1 k2 k3 k5 : Option Value} {B newId initId : String}
end
end PySem.MPX

namespace MP
open PySem PySem.Spec PyProof.Rows L2

/-- an own class that takes ValueError's __init__ over -/
structure LInit (K : PySem.W.Frag) (L : Addr) (mc : Value) : Prop where
  rd : PySem.W.readsIn K L mc = true
  ga : PySem.W.specialIn K (.ref L) "__getattribute__" = some (some (.builtin "type.__getattribute__"))
  at_ : PySem.W.findCls K (.ref L) mc "__init__" = some (.val (.builtin "ValueError.__init__"))
section
variable {X : Cx} {e : Expr} {es : List Expr} {ta : TA} {p1 p2 pos : Pos}
end

/-- __init__ of one field, of two -/
def spE (K : PySem.W.Frag) (fs : List Str) : Sp := fun vs H Q _ => ∃ (e C : Addr) (ys : List V), vs = .ref e :: ys ∧ ys.length = fs.length ∧ OexC K C ∧ (∀ f ∈ fs, PySem.W.findIn K (.ref C) f = some none) ∧ H e = some (exo e C none) ∧
  ∀ dx, H dx = none → dx ≠ e → Q .non (upd (upd H dx (exd dx (fs.zip ys).reverse)) e (exo e C (some dx)))
end MP

namespace MP
open PySem PySem.Spec PyProof.Rows L2

/-- deep data: tuples, lists that nobody changes any more, dicts and objects likewise; ref: an object of the store -/
inductive D where
  | non | bl (b : Bool) | int (i : Int) | str (s : Str)
  | tup (xs : List D) | ftup (xs : List D) | lst (xs : List D) | dct (t : Bool) (kvs : List (D × D)) | dcn (w : World) (kvs : List (D × D)) | fdct (kvs : List (D × D)) | obj (C : Addr) (fs : List (Str × D)) | exn (C : Addr) (fs : List (Str × D)) | fn (o : Option Addr) | ref (i : Nat)

abbrev Ev := List (Option D)
/-- what a lambda holds: where it stands, its code object, the slots that it was made with -/
abbrev Gh := Addr × Addr × L2.St × Ev
inductive O where
  | lst (xs : List D) | dct (t : Bool) (kvs : List (D × D)) | dcn (w : World) (kvs : List (D × D)) | ins (C : Addr) (fs : List (Str × D)) | tab (P : Addr) (q : Str) (g : Option Gh)

abbrev Sto := List O

inductive R (α : Type) where
  | ok (a : α) (S : Sto)
  | exc (C : Addr) (fs : List (Str × D)) (S : Sto)
  | bad
def R.bind {α β : Type} (r : R α) (f : α → Sto → R β) : R β := match r with
  | .ok a S => f a S
  | .exc C fs S => .exc C fs S
  | .bad => .bad
theorem bind_ok {α β : Type} (a : α) (S : Sto) (f : α → Sto → R β) : (R.ok a S).bind f = f a S := rfl
def keyD : Key → D
  | .inl i => .int i
  | .inr s => .str s

/-- at a: an exception of the class at C, its dict (none | at d) -/
def ExV (C : Addr) (d : Option Addr) (a : Addr) : HO := .ext fun h => ∃ (oe : Obj) (vs : Array Value), h.get? a = some oe ∧ Zc (.ref C) d oe ∧ oe.data = .fields vs
/-- at dd: the dict of an exception -/
def XdAt (H : Hp) (dd : Addr) (fs : List (Str × V)) : Prop := H dd = some (exd dd fs) ∨ H dd = some (.xd fs)
theorem XdAt.has {H : Hp} {dd : Addr} {fs : List (Str × V)} (h : XdAt H dd fs) : ∃ o, H dd = some o := by
  rcases h with h | h
  · exact ⟨_, h⟩
  · exact ⟨_, h⟩

/-! ### dicts whose keys are nested tuples -/
mutual
def nD : NestedKey → D
  | .none => .non
  | .num i => .int i
  | .text s => .str s
  | .tup ks => .tup (nDs ks)
def nDs : List NestedKey → List D
  | [] => []
  | k :: ks => nD k :: nDs ks
end
def nEnt (w : World) (x : NestedKey × Addr × Value) : DictEntry := ⟨x.1.hash w, .ref x.2.1, x.2.2⟩
abbrev NRel (p : NestedKey × Addr × V) (q : NestedKey × Addr × Value) : Prop := p.1 = q.1 ∧ p.2.1 = q.2.1 ∧ RelV p.2.2 q.2.2
def NFact (w : World) (a : Addr) (xs : List (NestedKey × Addr × V)) (h : Heap) : Prop := xs.length ≤ sizeLine ∧ (a == sysModules) = false ∧ ∃ us, Paired NRel xs us ∧
  ∃ o es ep, h.get? a = some o ∧ o.ExactDict ∧ o.data = .dict es ep ∧ es.toList = us.map (nEnt w) ∧ (us.map (·.1)).Nodup
/-- at a: a dict with these keys, their tuples' places and values -/
def ND (w : World) (a : Addr) (xs : List (NestedKey × Addr × V)) : HO := .ext (NFact w a xs)

mutual
inductive VR (K : PySem.W.Frag) (m : List Addr) (H : Hp) : V → D → Prop where
  | non : VR K m H .non .non
  | bl (b : Bool) : VR K m H (.bl b) (.bl b)
  | int (i : Int) : VR K m H (.int i) (.int i)
  | str (s : Str) : VR K m H (.str s) (.str s)
  | tup {a : Addr} {vs : List V} {ds : List D} (h : H a = some (.tup vs)) (r : VRs K m H vs ds) : VR K m H (.ref a) (.tup ds)
  | ftup {a : Addr} {vs : List V} {ds : List D} {o : Obj} (hd : o.dict = none) (h : H a = some (.frz o (.tup vs))) (r : VRs K m H vs ds) : VR K m H (.ref a) (.ftup ds)
  | lst {a : Addr} {vs : List V} {ds : List D} (n : a ∉ m) (h : Rd H a (.lst vs)) (r : VRs K m H vs ds) : VR K m H (.ref a) (.lst ds)
  | lstK {a : Addr} {vs : List V} {ds : List D} {o : Obj} {its : Array Value} {n : Nat} (hk : K.lookup a = some o) (h1 : o.cls = .type "list") (h2 : o.dict = none) (h3 : o.data = .seq its n) (h4 : its.size ≤ sizeLine) (h5 : Vals vs its.toList) (r : VRs K m H vs ds) : VR K m H (.ref a) (.lst ds)
  | dct {a : Addr} {vs : List (Key × V)} {ds : List (D × D)} (n : a ∉ m) (h : H a = some (.dK vs)) (r : VDk K m H vs ds) : VR K m H (.ref a) (.dct false ds)
  | dctT {a : Addr} {vs : List (List Key × V)} {ds : List (D × D)} (n : a ∉ m) (h : H a = some (.dT vs)) (r : VDt K m H vs ds) : VR K m H (.ref a) (.dct true ds)
  | fdct {a : Addr} {vs : List (Key × V)} {ds : List (D × D)} {o : Obj} (h : H a = some (.frz o (.dK vs))) (r : VDk K m H vs ds) : VR K m H (.ref a) (.fdct ds)
  | dcn {a : Addr} {w : World} {vs : List (NestedKey × Addr × V)} {ds : List (D × D)} (n : a ∉ m) (h : H a = some (ND w a vs)) (r : VDn K m H vs ds) : VR K m H (.ref a) (.dcn w ds)
  | obj {a C dx : Addr} {fs : List (Str × V)} {gs : List (Str × D)} (n : a ∉ m) (h : H a = some (.ins C dx fs)) (r : VFs K m H fs gs) : VR K m H (.ref a) (.obj C gs)
  | exn0 {a C : Addr} (n : a ∉ m) (h : H a = some (ExV C none a)) : VR K m H (.ref a) (.exn C [])
  | exnD {a C dd : Addr} {fs : List (Str × V)} {gs : List (Str × D)} (n : a ∉ m) (nd : dd ∉ m) (h : H a = some (ExV C (some dd) a)) (hd : XdAt H dd fs) (r : VFs K m H fs gs) : VR K m H (.ref a) (.exn C gs)
  | fn {b : Addr} {o : Option Addr} (h : ∀ a, o = some a → b = a) : VR K m H (.ref b) (.fn o)
  | ref {i : Nat} {a : Addr} (h : m[i]? = some a) : VR K m H (.ref a) (.ref i)
inductive VRs (K : PySem.W.Frag) (m : List Addr) (H : Hp) : List V → List D → Prop where
  | nil : VRs K m H [] []
  | cons {v : V} {d : D} {vs : List V} {ds : List D} (h : VR K m H v d) (r : VRs K m H vs ds) : VRs K m H (v :: vs) (d :: ds)
inductive VFs (K : PySem.W.Frag) (m : List Addr) (H : Hp) : List (Str × V) → List (Str × D) → Prop where
  | nil : VFs K m H [] []
  | cons {f : Str} {v : V} {d : D} {vs : List (Str × V)} {ds : List (Str × D)} (h : VR K m H v d) (r : VFs K m H vs ds) : VFs K m H ((f, v) :: vs) ((f, d) :: ds)
inductive VDk (K : PySem.W.Frag) (m : List Addr) (H : Hp) : List (Key × V) → List (D × D) → Prop where
  | nil : VDk K m H [] []
  | cons {k : Key} {v : V} {d : D} {vs : List (Key × V)} {ds : List (D × D)} (h : VR K m H v d) (r : VDk K m H vs ds) : VDk K m H ((k, v) :: vs) ((keyD k, d) :: ds)
inductive VDt (K : PySem.W.Frag) (m : List Addr) (H : Hp) : List (List Key × V) → List (D × D) → Prop where
  | nil : VDt K m H [] []
  | cons {k : List Key} {v : V} {d : D} {vs : List (List Key × V)} {ds : List (D × D)} (h : VR K m H v d) (r : VDt K m H vs ds) : VDt K m H ((k, v) :: vs) ((.tup (k.map keyD), d) :: ds)
inductive VDn (K : PySem.W.Frag) (m : List Addr) (H : Hp) : List (NestedKey × Addr × V) → List (D × D) → Prop where
  | nil : VDn K m H [] []
  | cons {k : NestedKey} {b : Addr} {v : V} {d : D} {vs : List (NestedKey × Addr × V)} {ds : List (D × D)} (hk : VR K m H (.ref b) (nD k)) (hd : k.depth ≤ 8) (h : VR K m H v d) (r : VDn K m H vs ds) : VDn K m H ((k, b, v) :: vs) ((nD k, d) :: ds)
end

/-- from (m, H) on: the store's places stay and grow by new ones; what is not in the store stays -/
structure Ext (m : List Addr) (H : Hp) (m' : List Addr) (H' : Hp) : Prop where
  pre : ∃ l, m' = m ++ l
  new : ∀ a ∈ m', a ∈ m ∨ H a = none
  keep : ∀ a o, a ∉ m → H a = some o → H' a = some o

/-- the slots -/
structure ER (K : PySem.W.Frag) (m : List Addr) (H : Hp) (σ : L2.St) (ρ : Ev) : Prop where
  at_ : ∀ (i : Nat) (d : D), ρ[i]? = some (some d) → ∃ v, σ[i]? = some (some v) ∧ VR K m H v d
  len : ρ.length = σ.length
/-- at P: a table whose code objects bear the name q, none of them in the store -/
def TabM (m : List Addr) (H : Hp) (P : Addr) (q : Str) : Prop := ∃ ps : Array Value, H P = some (.tbl ps) ∧ TriplesOk ps.toList ∧ ∀ (pos : Pos) (cv : Value), codeAmong pos ps.toList = some cv → ∃ c, cv = .ref c ∧ c ∉ m ∧ H c = some (LamX.CodeO c q)
inductive OR (K : PySem.W.Frag) (m : List Addr) (H : Hp) (a : Addr) : O → Prop where
  | lst {vs : List V} {ds : List D} (h : H a = some (.lst vs)) (r : VRs K m H vs ds) : OR K m H a (.lst ds)
  | dct {vs : List (Key × V)} {ds : List (D × D)} (h : H a = some (.dK vs)) (r : VDk K m H vs ds) : OR K m H a (.dct false ds)
  | dctT {vs : List (List Key × V)} {ds : List (D × D)} (h : H a = some (.dT vs)) (r : VDt K m H vs ds) : OR K m H a (.dct true ds)
  | dcn {w : World} {vs : List (NestedKey × Addr × V)} {ds : List (D × D)} (h : H a = some (ND w a vs)) (r : VDn K m H vs ds) : OR K m H a (.dcn w ds)
  | ins {C dx : Addr} {fs : List (Str × V)} {gs : List (Str × D)} (h : H a = some (.ins C dx fs)) (r : VFs K m H fs gs) : OR K m H a (.ins C gs)
  | tab {P : Addr} {q : Str} {g : Option Gh} (e : a = P) (h : TabM m H a q) (r : ∀ f c σ ρ, g = some (f, c, σ, ρ) → c ∉ m ∧ H c = some (LamX.CodeO c q) ∧ ER K m H σ ρ) : OR K m H a (.tab P q g)

structure SR (K : PySem.W.Frag) (m : List Addr) (H : Hp) (S : Sto) : Prop where
  nd : m.Nodup
  len : m.length = S.length
  at_ : ∀ (i : Nat) (a : Addr) (o : O), m[i]? = some a → S[i]? = some o → OR K m H a o

/-- what may change: a table, too -/
def Mut : Option HO → Prop
  | some (.tbl _) => True
  | o => L2.Mut o
theorem OR.mut {K : PySem.W.Frag} {m : List Addr} {H : Hp} {a : Addr} {o : O} (h : OR K m H a o) : Mut (H a) := by
  cases h with
  | lst h _ => rw [h]; trivial
  | dct h _ => rw [h]; trivial
  | dctT h _ => rw [h]; trivial
  | dcn h _ => rw [h]; trivial
  | ins h _ => rw [h]; trivial
  | tab _ h _ =>
    obtain ⟨ps, h, _⟩ := h
    rw [h]; trivial
theorem SR.mut {K : PySem.W.Frag} {m : List Addr} {H : Hp} {S : Sto} (x : SR K m H S) {a : Addr} (h : a ∈ m) : Mut (H a) := by
  obtain ⟨i, hi, e⟩ := List.mem_iff_getElem.mp h
  have hs : i < S.length := x.len ▸ hi
  exact (x.at_ i a S[i] (by rw [List.getElem?_eq_getElem hi, e]) (List.getElem?_eq_getElem hs)).mut
theorem not_mut_tup {H : Hp} {a : Addr} {xs : List V} (h : Rd H a (.tup xs)) : ¬ Mut (H a) := by
  rcases h with h | ⟨o, h⟩
  · rw [h]; exact fun z => z
  · rw [h]; exact fun z => z
theorem Ext.refl {m : List Addr} {H : Hp} : Ext m H m H := ⟨⟨[], by simp⟩, fun a h => .inl h, fun _ _ _ h => h⟩
theorem Ext.sub {m m' : List Addr} {H H' : Hp} (e : Ext m H m' H') {a : Addr} (h : a ∈ m) : a ∈ m' := by
  obtain ⟨l, e⟩ := e.pre
  rw [e]; exact List.mem_append_left _ h
theorem Ext.trans {m m1 m2 : List Addr} {H H1 H2 : Hp} (a : Ext m H m1 H1) (b : Ext m1 H1 m2 H2) : Ext m H m2 H2 := by
  have key : ∀ c o, c ∉ m → H c = some o → c ∉ m1 := fun c o n e z => by
    rcases a.new c z with y | y
    · exact n y
    · rw [y] at e; cases e
  refine ⟨?_, fun c hc => ?_, fun c o n e => b.keep c o (key c o n e) (a.keep c o n e)⟩
  · obtain ⟨l, e⟩ := a.pre
    obtain ⟨k, f⟩ := b.pre
    exact ⟨l ++ k, by rw [f, e, List.append_assoc]⟩
  · by_cases hm : c ∈ m
    · exact .inl hm
    · right
      cases q : H c with
      | none => rfl
      | some o =>
        rcases b.new c hc with y | y
        · exact absurd y (key c o hm q)
        · rw [a.keep c o hm q] at y; cases y
theorem Ext.rd {m m' : List Addr} {H H' : Hp} (e : Ext m H m' H') {a : Addr} {u : HO} (n : a ∉ m) (h : Rd H a u) : Rd H' a u := by
  rcases h with h | ⟨o, h⟩
  · exact .inl (e.keep a _ n h)
  · exact .inr ⟨o, e.keep a _ n h⟩
theorem Rd.has {H : Hp} {a : Addr} {u : HO} (h : Rd H a u) : ∃ o, H a = some o := by
  rcases h with h | ⟨o, h⟩
  · exact ⟨_, h⟩
  · exact ⟨_, h⟩
theorem Ext.nin {m m' : List Addr} {H H' : Hp} (e : Ext m H m' H') {a : Addr} (n : a ∉ m) (h : ∃ o, H a = some o) : a ∉ m' := fun z => by
  obtain ⟨o, h⟩ := h
  rcases e.new a z with y | y
  · exact n y
  · rw [y] at h; cases h
theorem Ext.get {m m' : List Addr} {H H' : Hp} (e : Ext m H m' H') {i : Nat} {a : Addr} (h : m[i]? = some a) : m'[i]? = some a := by
  obtain ⟨l, e⟩ := e.pre
  rw [e, List.getElem?_append_left (List.getElem?_eq_some_iff.mp h).1]
  exact h

section
variable {K : PySem.W.Frag} {m m' : List Addr} {H H' : Hp}
theorem frz_ext (e : Ext m H m' H') (mu : ∀ a ∈ m, Mut (H a)) {a : Addr} {o : Obj} {vs : List V} (h : H a = some (.frz o (.tup vs))) : H' a = some (.frz o (.tup vs)) :=
  e.keep _ _ (fun z => not_mut_tup (.inr ⟨o, h⟩) (mu a z)) h
theorem Rd.sup {H Hx : Hp} {a : Addr} {u : HO} (sup : ∀ b o, H b = some o → Hx b = some o) (h : Rd H a u) : Rd Hx a u := h.imp (sup _ _) fun ⟨o, e⟩ => ⟨o, sup _ _ e⟩
theorem SqT.rd {K : PySem.W.Frag} {H : Hp} {a : Addr} {xs : List V} (h : Rd H a (.tup xs)) : SqT K H a xs := .inl h
theorem tup_ext (e : Ext m H m' H') (mu : ∀ a ∈ m, Mut (H a)) {a : Addr} {vs : List V} (h : H a = some (.tup vs)) : H' a = some (.tup vs) :=
  e.keep _ _ (fun z => not_mut_tup (.inl h) (mu a z)) h
theorem frzD_ext (e : Ext m H m' H') (mu : ∀ a ∈ m, Mut (H a)) {a : Addr} {o : Obj} {vs : List (Key × V)} (h : H a = some (.frz o (.dK vs))) : H' a = some (.frz o (.dK vs)) :=
  e.keep _ _ (fun z => by have := mu a z; rw [h] at this; exact this) h
mutual
theorem VR.ext (e : Ext m H m' H') (mu : ∀ a ∈ m, Mut (H a)) {v : V} {d : D} : VR K m H v d → VR K m' H' v d
  | .non => .non
  | .bl b => .bl b
  | .int i => .int i
  | .str s => .str s
  | .tup h r => .tup (tup_ext e mu h) (VRs.ext e mu r)
  | .ftup hd h r => .ftup hd (frz_ext e mu h) (VRs.ext e mu r)
  | .lst n h r => .lst (e.nin n (Rd.has h)) (e.rd n h) (VRs.ext e mu r)
  | .lstK hk h1 h2 h3 h4 h5 r => .lstK hk h1 h2 h3 h4 h5 (VRs.ext e mu r)
  | .dct n h r => .dct (e.nin n ⟨_, h⟩) (e.keep _ _ n h) (VDk.ext e mu r)
  | .dctT n h r => .dctT (e.nin n ⟨_, h⟩) (e.keep _ _ n h) (VDt.ext e mu r)
  | .fdct h r => .fdct (frzD_ext e mu h) (VDk.ext e mu r)
  | .dcn n h r => .dcn (e.nin n ⟨_, h⟩) (e.keep _ _ n h) (VDn.ext e mu r)
  | .obj n h r => .obj (e.nin n ⟨_, h⟩) (e.keep _ _ n h) (VFs.ext e mu r)
  | .exn0 n h => .exn0 (e.nin n ⟨_, h⟩) (e.keep _ _ n h)
  | .exnD n nd h hd r => .exnD (e.nin n ⟨_, h⟩) (e.nin nd hd.has) (e.keep _ _ n h) (hd.imp (e.keep _ _ nd) (e.keep _ _ nd)) (VFs.ext e mu r)
  | .fn h => .fn h
  | .ref h => .ref (e.get h)
theorem VRs.ext (e : Ext m H m' H') (mu : ∀ a ∈ m, Mut (H a)) {v : List V} {d : List D} : VRs K m H v d → VRs K m' H' v d
  | .nil => .nil
  | .cons h r => .cons (VR.ext e mu h) (VRs.ext e mu r)
theorem VFs.ext (e : Ext m H m' H') (mu : ∀ a ∈ m, Mut (H a)) {v : List (Str × V)} {d : List (Str × D)} : VFs K m H v d → VFs K m' H' v d
  | .nil => .nil
  | .cons h r => .cons (VR.ext e mu h) (VFs.ext e mu r)
theorem VDk.ext (e : Ext m H m' H') (mu : ∀ a ∈ m, Mut (H a)) {v : List (Key × V)} {d : List (D × D)} : VDk K m H v d → VDk K m' H' v d
  | .nil => .nil
  | .cons h r => .cons (VR.ext e mu h) (VDk.ext e mu r)
theorem VDt.ext (e : Ext m H m' H') (mu : ∀ a ∈ m, Mut (H a)) {v : List (List Key × V)} {d : List (D × D)} : VDt K m H v d → VDt K m' H' v d
  | .nil => .nil
  | .cons h r => .cons (VR.ext e mu h) (VDt.ext e mu r)
theorem VDn.ext (e : Ext m H m' H') (mu : ∀ a ∈ m, Mut (H a)) {v : List (NestedKey × Addr × V)} {d : List (D × D)} : VDn K m H v d → VDn K m' H' v d
  | .nil => .nil
  | .cons hk hd h r => .cons (VR.ext e mu hk) hd (VR.ext e mu h) (VDn.ext e mu r)
end
end

theorem TabM.ext {m m' : List Addr} {H H' : Hp} {P : Addr} {q : Str} (t : TabM m H P q) (e : Ext m H m' H') (h : H' P = H P) : TabM m' H' P q := by
  obtain ⟨ps, h1, h2, h3⟩ := t
  refine ⟨ps, h.trans h1, h2, fun pos cv hc => ?_⟩
  obtain ⟨c, e1, e2, e3⟩ := h3 pos cv hc
  exact ⟨c, e1, e.nin e2 ⟨_, e3⟩, e.keep _ _ e2 e3⟩
theorem ER.ext {K : PySem.W.Frag} {m m' : List Addr} {H H' : Hp} {σ : L2.St} {ρ : Ev} (r : ER K m H σ ρ) (e : Ext m H m' H') (mu : ∀ a ∈ m, Mut (H a)) : ER K m' H' σ ρ := ⟨fun i d h => by
  obtain ⟨v, h1, h2⟩ := r.at_ i d h
  exact ⟨v, h1, h2.ext e mu⟩, r.len⟩
theorem ER.set {K : PySem.W.Frag} {m : List Addr} {H : Hp} {σ : L2.St} {ρ : Ev} (r : ER K m H σ ρ) {i : Nat} {v : V} {d : D} (h : VR K m H v d) : ER K m H (σ.set i (some v)) (ρ.set i (some d)) := ⟨fun j d' e => by
  have hl := r.len
  by_cases hj : i = j
  · subst hj
    have hi : i < ρ.length := by
      have := (List.getElem?_eq_some_iff.mp e).1
      simpa using this
    rw [List.getElem?_set_self hi] at e
    cases e
    exact ⟨v, by rw [List.getElem?_set_self (by omega)], h⟩
  · rw [List.getElem?_set_ne hj] at e ⊢
    exact r.at_ j d' e, by simp [r.len]⟩

/-- what an expression is worth -/
abbrev LE := Ev → Sto → R D
/-- behind an expression -/
def VP (X : Cx) (pins : List (Addr × Obj)) (σ : L2.St) (m : List Addr) (H : Hp) (d : D) (S' : Sto) (u : Value) (s' : Shared) : Prop :=
  ∃ v H' m', Inv X pins σ H' s' ∧ RelV v u ∧ Ext m H m' H' ∧ SR X.K m' H' S' ∧ VR X.K m' H' v d
def VPr (X : Cx) (pins : List (Addr × Obj)) (σ : L2.St) (m : List Addr) (H : Hp) (r : R D) (u : Value) (s' : Shared) : Prop := ∃ d S', r = .ok d S' ∧ VP X pins σ m H d S' u s'
/-- the dict of an exception, or none -/
def XD (K : PySem.W.Frag) (m' : List Addr) (H' : Hp) (d : Option Addr) (fs : List (Str × D)) : Prop := (∃ (dd : Addr) (vs : List (Str × V)), d = some dd ∧ H' dd = some (.xd vs) ∧ VFs K m' H' vs fs) ∨ (d = none ∧ fs = [])
/-- an exception that leaves, by the store -/
def WL (K : PySem.W.Frag) (m : List Addr) (H : Hp) (C : Addr) (fs : List (Str × D)) (S' : Sto) : Value → Option Addr → Hp → Prop := fun cls d H' =>
  cls = .ref C ∧ ∃ (m' : List Addr), XD K m' H' d fs ∧ Ext m H m' H' ∧ SR K m' H' S'
def Hope (X : Cx) (σ : L2.St) (m : List Addr) (H : Hp) {α : Type} (r : R α) : Prop :=
  r ≠ .bad ∧ ∀ C fs S', r = .exc C fs S' → ∀ u s', XE X (fun cls d σ' H' => σ' = σ ∧ WL X.K m H C fs S' cls d H') u s' → X.xe u s'
theorem WL.ext {K : PySem.W.Frag} {m m1 : List Addr} {H H1 : Hp} {C : Addr} {fs : List (Str × D)} {S' : Sto} {cls : Value} {d : Option Addr} {H' : Hp} (e : Ext m H m1 H1) (w : WL K m1 H1 C fs S' cls d H') : WL K m H C fs S' cls d H' := by
  obtain ⟨h1, m', h2, h4, h5⟩ := w
  exact ⟨h1, m', h2, e.trans h4, h5⟩
theorem XE.imp {X : Cx} {W W' : WX} {u : Value} {s' : Shared} (x : XE X W u s') (h : ∀ c d σ H, W c d σ H → W' c d σ H) : XE X W' u s' := by
  obtain ⟨a, B, sI, pins, σ, H, cls, d, e, I, nb, up, sky, na, os, ag, w⟩ := x
  exact ⟨a, B, sI, pins, σ, H, cls, d, e, I, nb, up, sky, na, os, ag, h _ _ _ _ w⟩
theorem Hope.ext {X : Cx} {σ : L2.St} {m m1 : List Addr} {H H1 : Hp} {α : Type} {r : R α} (h : Hope X σ m H r) (e : Ext m H m1 H1) : Hope X σ m1 H1 r :=
  ⟨h.1, fun C fs S' q u s' x => h.2 C fs S' q u s' (XE.imp x fun _ _ _ _ z => ⟨z.1, z.2.ext e⟩)⟩
theorem Hope.ok {X : Cx} {σ : L2.St} {m : List Addr} {H : Hp} {α : Type} {a : α} {S : Sto} : Hope X σ m H (R.ok a S) := ⟨fun z => (nomatch z), fun _ _ _ q => (nomatch q)⟩
theorem Hope.exc {X : Cx} {σ : L2.St} {m : List Addr} {H : Hp} {α β : Type} {C : Addr} {fs : List (Str × D)} {S : Sto} (h : Hope X σ m H (R.exc C fs S : R α)) : Hope X σ m H (R.exc C fs S : R β) :=
  ⟨fun z => (nomatch z), fun C' fs' S' q => by cases q; exact h.2 _ _ _ rfl⟩

structure PEL (X : Cx) (e : Expr) (l : LE) : Prop where
  run : ∀ (pins : List (Addr × Obj)) (s : Shared) (σ : L2.St) (H : Hp) (m : List Addr) (ρ : Ev) (S : Sto), Inv X pins σ H s → SR X.K m H S → ER X.K m H σ ρ → Hope X σ m H (l ρ S) →
    wpAny (model X.prog X.w) X.A (eval e X.env) (VPr X pins σ m H (l ρ S)) X.xe s
/-- a test -/
abbrev LT := Ev → Sto → R Bool
def TPr (X : Cx) (pins : List (Addr × Obj)) (σ : L2.St) (m : List Addr) (H : Hp) (r : R Bool) (b : Bool) (s' : Shared) : Prop :=
  ∃ S' H' m', r = .ok b S' ∧ Inv X pins σ H' s' ∧ Ext m H m' H' ∧ SR X.K m' H' S'
structure PTL (X : Cx) (e : Expr) (l : LT) : Prop where
  run : ∀ (pins : List (Addr × Obj)) (s : Shared) (σ : L2.St) (H : Hp) (m : List Addr) (ρ : Ev) (S : Sto), Inv X pins σ H s → SR X.K m H S → ER X.K m H σ ρ → Hope X σ m H (l ρ S) →
    wpAny (model X.prog X.w) X.A (isTrue e X.env (eval e X.env)) (TPr X pins σ m H (l ρ S)) X.xe s
/-- arguments -/
abbrev LA := Ev → Sto → R (List D)
def APr (X : Cx) (pins : List (Addr × Obj)) (σ : L2.St) (m : List Addr) (H : Hp) (r : R (List D)) (us : List Value) (s' : Shared) : Prop :=
  ∃ ds S' vs H' m', r = .ok ds S' ∧ Inv X pins σ H' s' ∧ Vals vs us ∧ Ext m H m' H' ∧ SR X.K m' H' S' ∧ VRs X.K m' H' vs ds
structure PAL (X : Cx) (es : List Expr) (l : LA) : Prop where
  run : ∀ (pos : Pos) (pins : List (Addr × Obj)) (s : Shared) (σ : L2.St) (H : Hp) (m : List Addr) (ρ : Ev) (S : Sto), Inv X pins σ H s → SR X.K m H S → ER X.K m H σ ρ → Hope X σ m H (l ρ S) →
    wpAny (model X.prog X.w) X.A (spliced (backTo pos (starEach es X.env))) (APr X pins σ m H (l ρ S)) X.xe s
end MP

namespace MP
open PySem PySem.Spec PyProof.Rows L2

section
variable {K : PySem.W.Frag} {m : List Addr} {H : Hp} {S : Sto} {p : Addr} {o : HO}
theorem SR.muts (x : SR K m H S) : ∀ a ∈ m, Mut (H a) := fun _ h => x.mut h
theorem SR.nin (x : SR K m H S) (h : H p = none) : p ∉ m := fun z => by
  have := x.mut z
  rw [h] at this; exact this
theorem Ext.fresh (h : H p = none) : Ext m H m (upd H p o) := ⟨⟨[], by simp⟩, fun a h => .inl h, fun a u _ e => by rw [upd_ne (ne_of_none e h)]; exact e⟩
theorem OR.ext {m' : List Addr} {H' : Hp} {a : Addr} {ob : O} (r : OR K m H a ob) (e : Ext m H m' H') (mu : ∀ a ∈ m, Mut (H a)) (h : H' a = H a) : OR K m' H' a ob := by
  cases r with
  | lst q r => exact .lst (h.trans q) (r.ext e mu)
  | dct q r => exact .dct (h.trans q) (r.ext e mu)
  | dctT q r => exact .dctT (h.trans q) (r.ext e mu)
  | dcn q r => exact .dcn (h.trans q) (r.ext e mu)
  | ins q r => exact .ins (h.trans q) (r.ext e mu)
  | tab eP q r =>
    refine .tab eP (q.ext e h) fun f c σ ρ z => ?_
    obtain ⟨r1, r2, r3⟩ := r f c σ ρ z
    exact ⟨e.nin r1 ⟨_, r2⟩, e.keep _ _ r1 r2, r3.ext e mu⟩
theorem SR.fresh (x : SR K m H S) (h : H p = none) : SR K m (upd H p o) S := ⟨x.nd, x.len, fun i a ob h1 h2 => (x.at_ i a ob h1 h2).ext (Ext.fresh h) x.muts (upd_ne fun z => x.nin h (z ▸ List.mem_iff_getElem?.mpr ⟨i, h1⟩))⟩

/-- what is wanted of a value and the heap behind, by the store -/
def QV (K : PySem.W.Frag) (m : List Addr) (H : Hp) (S' : Sto) (d : D) : VK := fun v H' => ∃ m', Ext m H m' H' ∧ SR K m' H' S' ∧ VR K m' H' v d
theorem qv_same (x : SR K m H S) {v : V} {d : D} (r : VR K m H v d) : QV K m H S d v H := ⟨m, Ext.refl, x, r⟩
theorem qv_new (x : SR K m H S) (h : H p = none) {v : V} {d : D} (r : VR K m (upd H p o) v d) : QV K m H S d v (upd H p o) := ⟨m, Ext.fresh h, x.fresh h, r⟩
theorem VRs.fresh (x : SR K m H S) (h : H p = none) {vs : List V} {ds : List D} (r : VRs K m H vs ds) : VRs K m (upd H p o) vs ds := r.ext (Ext.fresh h) x.muts
theorem VR.fresh (x : SR K m H S) (h : H p = none) {v : V} {d : D} (r : VR K m H v d) : VR K m (upd H p o) v d := r.ext (Ext.fresh h) x.muts
theorem vr_newTup (x : SR K m H S) (h : H p = none) {vs : List V} {ds : List D} (r : VRs K m H vs ds) : VR K m (upd H p (.tup vs)) (.ref p) (.tup ds) := .tup upd_same (r.fresh x h)
theorem vr_newLst (x : SR K m H S) (h : H p = none) {vs : List V} {ds : List D} (r : VRs K m H vs ds) : VR K m (upd H p (.lst vs)) (.ref p) (.lst ds) := .lst (x.nin h) (.inl upd_same) (r.fresh x h)
/-- a new object put into the store -/
theorem SR.snoc (x : SR K m H S) (h : H p = none) {ob : O} (r : ∀ m' H', Ext m H m' H' → H' p = some o → OR K m' H' p ob) : Ext m H (m ++ [p]) (upd H p o) ∧ SR K (m ++ [p]) (upd H p o) (S ++ [ob]) := by
  have e : Ext m H (m ++ [p]) (upd H p o) := ⟨⟨[p], rfl⟩, fun a ha => (List.mem_append.mp ha).imp id fun z => by
    rw [List.mem_singleton.mp z]; exact h, fun a u _ q => by rw [upd_ne (ne_of_none q h)]; exact q⟩
  refine ⟨e, List.nodup_append.mpr ⟨x.nd, by simp, fun a ha b hb z => ?_⟩, by simp [x.len], fun i a u h1 h2 => ?_⟩
  · rw [List.mem_singleton.mp hb] at z
    exact x.nin h (z ▸ ha)
  · by_cases hi : i < m.length
    · rw [List.getElem?_append_left hi] at h1
      rw [List.getElem?_append_left (x.len ▸ hi)] at h2
      exact (x.at_ i a u h1 h2).ext e x.muts (upd_ne fun z => x.nin h (z ▸ List.mem_iff_getElem?.mpr ⟨i, h1⟩))
    · have hl : i = m.length := by
        have := (List.getElem?_eq_some_iff.mp h1).1
        simp at this; omega
      subst hl
      rw [List.getElem?_append_right (Nat.le_refl _)] at h1
      rw [x.len, List.getElem?_append_right (Nat.le_refl _)] at h2
      simp at h1 h2
      subst h1 h2
      exact r _ _ e upd_same
theorem qv_newL (x : SR K m H S) (h : H p = none) {vs : List V} {ds : List D} (r : VRs K m H vs ds) : QV K m H (S ++ [.lst ds]) (.ref S.length) (.ref p) (upd H p (.lst vs)) := by
  obtain ⟨e, q⟩ := x.snoc (o := .lst vs) (ob := .lst ds) h fun m' H' e q => .lst q (r.ext e x.muts)
  exact ⟨_, e, q, .ref (by rw [← x.len]; simp)⟩
theorem VRs.length {vs : List V} {ds : List D} : VRs K m H vs ds → vs.length = ds.length
  | .nil => rfl
  | .cons _ r => by rw [List.length_cons, List.length_cons, r.length]
theorem VRs.append {vs ws : List V} {ds es : List D} : VRs K m H vs ds → VRs K m H ws es → VRs K m H (vs ++ ws) (ds ++ es)
  | .nil, s => s
  | .cons h r, s => .cons h (r.append s)
theorem VRs.take {vs : List V} {ds : List D} : ∀ (n : Nat), VRs K m H vs ds → VRs K m H (vs.take n) (ds.take n)
  | 0, _ => .nil
  | _ + 1, .nil => .nil
  | n + 1, .cons h r => .cons h (VRs.take n r)
theorem VRs.drop {vs : List V} {ds : List D} : ∀ (n : Nat), VRs K m H vs ds → VRs K m H (vs.drop n) (ds.drop n)
  | 0, r => r
  | _ + 1, .nil => .nil
  | n + 1, .cons h r => VRs.drop n r
theorem VRs.getr {vs : List V} {ds : List D} : ∀ {i : Nat} {d : D}, VRs K m H vs ds → ds[i]? = some d → ∃ v, vs[i]? = some v ∧ VR K m H v d
  | _, _, .nil, e => by simp at e
  | 0, _, .cons h _, e => by simp at e; subst e; exact ⟨_, rfl, h⟩
  | i + 1, d, .cons _ r, e => by
    obtain ⟨v, h1, h2⟩ := VRs.getr (i := i) (d := d) r (by simpa using e)
    exact ⟨v, by simpa using h1, h2⟩
theorem VRs.set {v : V} {d : D} (h : VR K m H v d) {vs : List V} {ds : List D} : ∀ (i : Nat), VRs K m H vs ds → VRs K m H (vs.set i v) (ds.set i d)
  | _, .nil => .nil
  | 0, .cons _ r => .cons h r
  | i + 1, .cons q r => .cons q (VRs.set h i r)
theorem VRs.eraseIdx {vs : List V} {ds : List D} : ∀ (i : Nat), VRs K m H vs ds → VRs K m H (vs.eraseIdx i) (ds.eraseIdx i)
  | _, .nil => .nil
  | 0, .cons _ r => r
  | i + 1, .cons q r => .cons q (VRs.eraseIdx i r)
theorem VRs.of_ints {ns : List Int} : VRs K m H (ns.map V.int) (ns.map D.int) := by
  induction ns with
  | nil => exact .nil
  | cons n ns ih => exact .cons (.int n) ih
end

/-- an object of the store as it stands -/
def vw (S : Sto) : D → D
  | .ref i => match S[i]? with
    | some (.lst xs) => .lst xs
    | some (.dct t kvs) => .dct t kvs
    | some (.dcn w kvs) => .dcn w kvs
    | some (.ins C fs) => .obj C fs
    | some (.tab _ _ _) => .fn none
    | none => .ref i
  | d => d
section
variable {K : PySem.W.Frag} {m : List Addr} {H : Hp} {S : Sto}
theorem vw_lst (x : SR K m H S) {v : V} {d : D} {xs : List D} (r : VR K m H v d) (e : vw S d = .lst xs) : ∃ a vs, v = .ref a ∧ SqL K H a vs ∧ VRs K m H vs xs := by
  cases r with
  | @lst a vs ds n h r => cases e; exact ⟨a, vs, rfl, .inl h, r⟩
  | @lstK a vs ds ob its n hk h1 h2 h3 h4 h5 r => cases e; exact ⟨a, vs, rfl, .inr ⟨ob, its, n, hk, h1, h2, h3, h4, h5⟩, r⟩
  | @ref i a h =>
    dsimp only [vw] at e
    cases q : S[i]? with
    | none => rw [q] at e; cases e
    | some ob =>
      have z := x.at_ i a ob h q
      rw [q] at e
      cases z with
      | lst h r => cases e; exact ⟨a, _, rfl, SqL.of h, r⟩
      | dct _ _ => cases e
      | dctT _ _ => cases e
      | dcn _ _ => cases e
      | tab _ _ _ => cases e
      | ins _ _ => cases e
  | _ => cases e
theorem vw_tup {v : V} {d : D} {xs : List D} (r : VR K m H v d) (e : vw S d = .tup xs) : ∃ a vs, v = .ref a ∧ H a = some (.tup vs) ∧ VRs K m H vs xs := by
  cases r with
  | @tup a vs ds h r => cases e; exact ⟨a, vs, rfl, h, r⟩
  | @ref i a h =>
    dsimp only [vw] at e
    cases q : S[i]? with
    | none => rw [q] at e; cases e
    | some ob => rw [q] at e; cases ob <;> cases e
  | _ => cases e
theorem vw_ftup {v : V} {d : D} {xs : List D} (r : VR K m H v d) (e : vw S d = .ftup xs) : ∃ a vs, ∃ o : Obj, v = .ref a ∧ o.dict = none ∧ H a = some (.frz o (.tup vs)) ∧ VRs K m H vs xs := by
  cases r with
  | @ftup a vs ds o hd h r => cases e; exact ⟨a, vs, o, rfl, hd, h, r⟩
  | @ref i a h =>
    dsimp only [vw] at e
    cases q : S[i]? with
    | none => rw [q] at e; cases e
    | some ob => rw [q] at e; cases ob <;> cases e
  | _ => cases e
theorem vw_int {v : V} {d : D} {i : Int} (r : VR K m H v d) (e : vw S d = .int i) : v = .int i := by
  cases r with
  | int j => cases e; rfl
  | @ref i a h =>
    dsimp only [vw] at e
    cases q : S[i]? with
    | none => rw [q] at e; cases e
    | some ob => rw [q] at e; cases ob <;> cases e
  | _ => cases e
theorem vw_str {v : V} {d : D} {i : Str} (r : VR K m H v d) (e : vw S d = .str i) : v = .str i := by
  cases r with
  | str j => cases e; rfl
  | @ref i a h =>
    dsimp only [vw] at e
    cases q : S[i]? with
    | none => rw [q] at e; cases e
    | some ob => rw [q] at e; cases ob <;> cases e
  | _ => cases e
theorem vw_bl {v : V} {d : D} {i : Bool} (r : VR K m H v d) (e : vw S d = .bl i) : v = .bl i := by
  cases r with
  | bl j => cases e; rfl
  | @ref i a h =>
    dsimp only [vw] at e
    cases q : S[i]? with
    | none => rw [q] at e; cases e
    | some ob => rw [q] at e; cases ob <;> cases e
  | _ => cases e
theorem vw_obj (x : SR K m H S) {v : V} {d : D} {C : Addr} {gs : List (Str × D)} (r : VR K m H v d) (e : vw S d = .obj C gs) : ∃ a dx fs, v = .ref a ∧ H a = some (.ins C dx fs) ∧ VFs K m H fs gs := by
  cases r with
  | @obj a C dx fs gs n h r => cases e; exact ⟨a, dx, fs, rfl, h, r⟩
  | @ref i a h =>
    dsimp only [vw] at e
    cases q : S[i]? with
    | none => rw [q] at e; cases e
    | some ob =>
      have z := x.at_ i a ob h q
      rw [q] at e
      cases z with
      | ins h r => cases e; exact ⟨a, _, _, rfl, h, r⟩
      | dct _ _ => cases e
      | dctT _ _ => cases e
      | dcn _ _ => cases e
      | tab _ _ _ => cases e
      | lst _ _ => cases e
  | _ => cases e
end

/-! ### rules by values -/
abbrev G2 := Sto → D → D → Option D
/-- an operation on two values; the store stays -/
structure OpL (X : Cx) (f : Value → Value → Sem Value) (g : G2) : Prop where
  run : ∀ (pins : List (Addr × Obj)) (s : Shared) (σ : L2.St) (H : Hp) (m : List Addr) (S : Sto) (x y : V) (dx dy d : D) (v u : Value), Inv X pins σ H s → SR X.K m H S → VR X.K m H x dx → VR X.K m H y dy → RelV x v → RelV y u → g S dx dy = some d →
    wpAny (model X.prog X.w) X.A (f v u) (VP X pins σ m H d S) X.xe s
theorem vp_of {X : Cx} {pins : List (Addr × Obj)} {σ : L2.St} {m : List Addr} {H : Hp} {S : Sto} {d : D} {u : Value} {s' : Shared} (h : EP X pins σ (QV X.K m H S d) u s') : VP X pins σ m H d S u s' := by
  obtain ⟨v, H', I, r, m', e, q, w⟩ := h
  exact ⟨v, H', m', I, r, e, q, w⟩
theorem OpL.of {X : Cx} {f : Value → Value → Sem Value} {r : R2} {g : G2} (h : OpR X f r)
    (hg : ∀ (H : Hp) (m : List Addr) (S : Sto) (x y : V) (dx dy d : D), SR X.K m H S → VR X.K m H x dx → VR X.K m H y dy → g S dx dy = some d → r x y H (QV X.K m H S d)) : OpL X f g :=
  ⟨fun pins s σ H m S x y dx dy d v u I q rx ry ex ey e => thn (h pins s σ H x y v u _ I ex ey (hg H m S x y dx dy d q rx ry e)) fun _ _ z => vp_of z⟩
theorem OpL.or {X : Cx} {f : Value → Value → Sem Value} {g g' : G2} (h : OpL X f g) (h' : OpL X f g') : OpL X f (fun S x y => (g S x y).or (g' S x y)) :=
  ⟨fun pins s σ H m S x y dx dy d v u I q rx ry ex ey e => by
    cases z : g S dx dy with
    | some d' =>
      rw [z] at e
      cases e
      exact h.run pins s σ H m S x y dx dy _ v u I q rx ry ex ey z
    | none =>
      rw [z] at e
      exact h'.run pins s σ H m S x y dx dy _ v u I q rx ry ex ey e⟩

def g2I (f : Int → Int → Option D) : G2 := fun S x y => match vw S x, vw S y with
  | .int i, .int j => f i j
  | _, _ => none
def g2S (f : Str → Str → Option D) : G2 := fun S x y => match vw S x, vw S y with
  | .str i, .str j => f i j
  | _, _ => none
def g2T (f : List D → List D → Option D) : G2 := fun S x y => match vw S x, vw S y with
  | .tup i, .tup j => f i j
  | _, _ => none
def g2L (f : List D → List D → Option D) : G2 := fun S x y => match vw S x, vw S y with
  | .lst i, .lst j => f i j
  | _, _ => none
theorem g2I_inv {f : Int → Int → Option D} {S : Sto} {x y d : D} (h : g2I f S x y = some d) : ∃ i j, vw S x = .int i ∧ vw S y = .int j ∧ f i j = some d := by
  unfold g2I at h
  split at h
  · exact ⟨_, _, ‹_›, ‹_›, h⟩
  · cases h
theorem g2S_inv {f : Str → Str → Option D} {S : Sto} {x y d : D} (h : g2S f S x y = some d) : ∃ i j, vw S x = .str i ∧ vw S y = .str j ∧ f i j = some d := by
  unfold g2S at h
  split at h
  · exact ⟨_, _, ‹_›, ‹_›, h⟩
  · cases h
theorem g2T_inv {f : List D → List D → Option D} {S : Sto} {x y d : D} (h : g2T f S x y = some d) : ∃ i j, vw S x = .tup i ∧ vw S y = .tup j ∧ f i j = some d := by
  unfold g2T at h
  split at h
  · exact ⟨_, _, ‹_›, ‹_›, h⟩
  · cases h
theorem g2L_inv {f : List D → List D → Option D} {S : Sto} {x y d : D} (h : g2L f S x y = some d) : ∃ i j, vw S x = .lst i ∧ vw S y = .lst j ∧ f i j = some d := by
  unfold g2L at h
  split at h
  · exact ⟨_, _, ‹_›, ‹_›, h⟩
  · cases h
section
variable {X : Cx}
/-- ints, under a condition -/
theorem opl_int {f : Value → Value → Sem Value} {C : Int → Int → Prop} {g : Int → Int → V} {g' : Int → Int → Option D} (h : OpR X f (rI C g)) (hg : ∀ i j d, g' i j = some d → C i j ∧ ∀ K m H, VR K m H (g i j) d) : OpL X f (g2I g') :=
  .of h fun H m S x y dx dy d q rx ry e => by
    obtain ⟨i, j, e1, e2, e3⟩ := g2I_inv e
    obtain ⟨c, z⟩ := hg i j d e3
    exact ⟨i, j, vw_int rx e1, vw_int ry e2, c, qv_same q (z _ _ _)⟩
theorem opl_int0 {f : Value → Value → Sem Value} {g : Int → Int → V} {g' : Int → Int → D} (h : OpR X f (rI0 g)) (hg : ∀ i j K m H, VR K m H (g i j) (g' i j)) : OpL X f (g2I fun i j => some (g' i j)) :=
  .of h fun H m S x y dx dy d q rx ry e => by
    obtain ⟨i, j, e1, e2, e3⟩ := g2I_inv e
    cases e3
    exact ⟨i, j, vw_int rx e1, vw_int ry e2, qv_same q (hg _ _ _ _ _)⟩

def gCat : G2 := g2T fun a b => if a.length + b.length ≤ sizeLine then some (.tup (a ++ b)) else none
def gCatL : G2 := g2L fun a b => if a.length + b.length ≤ sizeLine then some (.lst (a ++ b)) else none
def gAddI : G2 := g2I fun i j => some (.int (i + j))
def gAddS : G2 := g2S fun a b => if a.length + b.length ≤ sizeLine then some (.str (a ++ b)) else none
theorem opl_addI : OpL X (binaryOp .Add) gAddI := opl_int0 op_add fun i j _ _ _ => .int _
theorem opl_addS : OpL X (binaryOp .Add) gAddS := .of op_add_str fun H m S x y dx dy d q rx ry e => by
  obtain ⟨i, j, e1, e2, e3⟩ := g2S_inv e
  split at e3
  · cases e3
    exact ⟨i, j, vw_str rx e1, vw_str ry e2, ‹_›, qv_same q (.str _)⟩
  · cases e3
theorem VRs.nil_iff {K : PySem.W.Frag} {m : List Addr} {H : Hp} {vs : List V} {ds : List D} (r : VRs K m H vs ds) : vs = [] ↔ ds = [] := by
  cases r <;> simp
theorem opl_catT : OpL X (binaryOp .Add) gCat := .of op_catA fun H m S x y dx dy d q rx ry e => by
  obtain ⟨i, j, e1, e2, e3⟩ := g2T_inv e
  split at e3
  · cases e3
    obtain ⟨a, xs, rfl, ha, r1⟩ := vw_tup rx e1
    obtain ⟨b, ys, rfl, hb, r2⟩ := vw_tup ry e2
    refine ⟨a, b, xs, ys, rfl, rfl, SqT.of ha, SqT.of hb, by rw [r1.length, r2.length]; assumption, ?_⟩
    refine ⟨fun z => ?_, fun z z' => ?_, fun z z' p hp => ?_⟩
    · have z1 := r1.nil_iff.mp z
      subst z1
      exact qv_same q (.tup hb (by simpa using r2))
    · have z1 := r2.nil_iff.mp z'
      subst z1
      exact qv_same q (.tup ha (by simpa using r1))
    · exact qv_new q hp (vr_newTup q hp (r1.append r2))
  · cases e3
end
end MP

namespace MP
open PySem PySem.Spec PyProof.Rows L2

section
variable {X : Cx} {pins : List (Addr × Obj)} {σ : L2.St} {m m1 : List Addr} {H H1 : Hp} {ρ : Ev} {S S1 : Sto} {s : Shared}
theorem VPr.left {r : R D} {u : Value} {s' : Shared} (e : Ext m H m1 H1) (h : VPr X pins σ m1 H1 r u s') : VPr X pins σ m H r u s' := by
  obtain ⟨d, S', q, v, H', m', I, rv, e', x, w⟩ := h
  exact ⟨d, S', q, v, H', m', I, rv, e.trans e', x, w⟩
theorem TPr.left {r : R Bool} {u : Bool} {s' : Shared} (e : Ext m H m1 H1) (h : TPr X pins σ m1 H1 r u s') : TPr X pins σ m H r u s' := by
  obtain ⟨S', H', m', q, I, e', x⟩ := h
  exact ⟨S', H', m', q, I, e.trans e', x⟩
theorem APr.left {r : R (List D)} {u : List Value} {s' : Shared} (e : Ext m H m1 H1) (h : APr X pins σ m1 H1 r u s') : APr X pins σ m H r u s' := by
  obtain ⟨ds, S', vs, H', m', q, I, rv, e', x, w⟩ := h
  exact ⟨ds, S', vs, H', m', q, I, rv, e.trans e', x, w⟩
theorem vpr_of {d : D} {S' : Sto} {u : Value} {s' : Shared} (h : VP X pins σ m H d S' u s') : VPr X pins σ m H (.ok d S') u s' := ⟨d, S', rfl, h⟩

/-- an expression, then what goes on -/
theorem run_seq {α : Type} {e : Expr} {l : LE} (h : PEL X e l) (I : Inv X pins σ H s) (x : SR X.K m H S) (r : ER X.K m H σ ρ) {f : D → Sto → R α} (hp : Hope X σ m H ((l ρ S).bind f)) {Q : Value → Shared → Prop}
    (k : ∀ d S1, l ρ S = .ok d S1 → ∀ v u s1 H1 m1, Inv X pins σ H1 s1 → RelV v u → Ext m H m1 H1 → SR X.K m1 H1 S1 → VR X.K m1 H1 v d → ER X.K m1 H1 σ ρ → Hope X σ m1 H1 (f d S1) → Q u s1) :
    wpAny (model X.prog X.w) X.A (eval e X.env) Q X.xe s := by
  cases q : l ρ S with
  | bad => rw [q] at hp; exact absurd rfl hp.1
  | exc C fs S' =>
    rw [q] at hp
    have z := h.run pins s σ H m ρ S I x r (by rw [q]; exact hp.exc)
    rw [q] at z
    exact thn z fun u s' ⟨d, S2, e, _⟩ => nomatch e
  | ok d S1 =>
    rw [q] at hp
    have z := h.run pins s σ H m ρ S I x r (by rw [q]; exact Hope.ok)
    rw [q] at z
    refine thn z fun u s1 ⟨d', S2, e, v, H1, m1, I1, rv, ex, x1, w⟩ => ?_
    cases e
    exact k d S1 q v u s1 H1 m1 I1 rv ex x1 w (r.ext ex x.muts) (Hope.ext hp ex)
theorem run_seqT {α : Type} {e : Expr} {l : LT} (h : PTL X e l) (I : Inv X pins σ H s) (x : SR X.K m H S) (r : ER X.K m H σ ρ) {f : Bool → Sto → R α} (hp : Hope X σ m H ((l ρ S).bind f)) {Q : Bool → Shared → Prop}
    (k : ∀ b S1, l ρ S = .ok b S1 → ∀ s1 H1 m1, Inv X pins σ H1 s1 → Ext m H m1 H1 → SR X.K m1 H1 S1 → ER X.K m1 H1 σ ρ → Hope X σ m1 H1 (f b S1) → Q b s1) :
    wpAny (model X.prog X.w) X.A (isTrue e X.env (eval e X.env)) Q X.xe s := by
  cases q : l ρ S with
  | bad => rw [q] at hp; exact absurd rfl hp.1
  | exc C fs S' =>
    rw [q] at hp
    have z := h.run pins s σ H m ρ S I x r (by rw [q]; exact hp.exc)
    rw [q] at z
    exact thn z fun u s' ⟨S2, H', m', e, _⟩ => nomatch e
  | ok d S1 =>
    rw [q] at hp
    have z := h.run pins s σ H m ρ S I x r (by rw [q]; exact Hope.ok)
    rw [q] at z
    refine thn z fun u s1 ⟨S2, H1, m1, e, I1, ex, x1⟩ => ?_
    cases e
    exact k d S1 q s1 H1 m1 I1 ex x1 (r.ext ex x.muts) (Hope.ext hp ex)
theorem run_seqA {α : Type} {es : List Expr} {l : LA} {pos : Pos} (h : PAL X es l) (I : Inv X pins σ H s) (x : SR X.K m H S) (r : ER X.K m H σ ρ) {f : List D → Sto → R α} (hp : Hope X σ m H ((l ρ S).bind f)) {Q : List Value → Shared → Prop}
    (k : ∀ ds S1, l ρ S = .ok ds S1 → ∀ vs us s1 H1 m1, Inv X pins σ H1 s1 → Vals vs us → Ext m H m1 H1 → SR X.K m1 H1 S1 → VRs X.K m1 H1 vs ds → ER X.K m1 H1 σ ρ → Hope X σ m1 H1 (f ds S1) → Q us s1) :
    wpAny (model X.prog X.w) X.A (spliced (backTo pos (starEach es X.env))) Q X.xe s := by
  cases q : l ρ S with
  | bad => rw [q] at hp; exact absurd rfl hp.1
  | exc C fs S' =>
    rw [q] at hp
    have z := h.run pos pins s σ H m ρ S I x r (by rw [q]; exact hp.exc)
    rw [q] at z
    exact thn z fun u s' ⟨ds, S2, vs, H', m', e, _⟩ => nomatch e
  | ok d S1 =>
    rw [q] at hp
    have z := h.run pos pins s σ H m ρ S I x r (by rw [q]; exact Hope.ok)
    rw [q] at z
    refine thn z fun u s1 ⟨ds, S2, vs, H1, m1, e, I1, rv, ex, x1, w⟩ => ?_
    cases e
    exact k d S1 q vs u s1 H1 m1 I1 rv ex x1 w (r.ext ex x.muts) (Hope.ext hp ex)
end

section
variable {X : Cx} {a b c e : Expr} {la lb lc l : LE} {pos : Pos}
def lVar (i : Nat) : LE := fun ρ S => match ρ[i]? with
  | some (some d) => .ok d S
  | _ => .bad
theorem pel_var {i : Nat} {x : Str} (hN : X.N[i]? = some x := by rfl) (hv : Vis X.env.scope x := by first | exact Or.inl rfl | exact Or.inr (Or.inl rfl) | exact Or.inr (Or.inr rfl)) (hd : (x == ("__debug__" : Str)) = false := by decide) (hcd : (x == ("__classdict__" : Str)) = false := by decide) :
    PEL X (.Name x pos) (lVar i) := by
  refine ⟨fun pins s σ H m ρ S I x r hp => ?_⟩
  unfold lVar at hp ⊢
  split at hp
  · rename_i d e
    obtain ⟨v, h1, h2⟩ := r.at_ i d e
    exact thn ((pe_var hN hv hd hcd).run pins s σ H (QV X.K m H S d) I ⟨v, h1, qv_same x h2⟩) fun u s' q => vpr_of (vp_of q)
  · exact absurd rfl hp.1
/-- an expression of the layer whose value is known -/
def lC (d : D) : LE := fun _ S => .ok d S
theorem pel_c {v : V} {d : D} (h : PE X e (tC v)) (hv : ∀ K m H, VR K m H v d) : PEL X e (lC d) :=
  ⟨fun pins s σ H m ρ S I x r hp => thn (h.run pins s σ H (QV X.K m H S d) I (qv_same x (hv _ _ _))) fun u s' q => vpr_of (vp_of q)⟩
theorem pel_int {i : Int} {j : Nat} : PEL X (.Constant (.int i) j pos) (lC (.int i)) := pel_c pe_int fun _ _ _ => .int i
theorem pel_bl {i : Bool} {j : Nat} : PEL X (.Constant (.bool i) j pos) (lC (.bl i)) := pel_c pe_bl fun _ _ _ => .bl i
theorem pel_non {j : Nat} : PEL X (.Constant .none j pos) (lC .non) := pel_c pe_non fun _ _ _ => .non
theorem pel_str {i : Str} {j : Nat} : PEL X (.Constant (.str i) j pos) (lC (.str i)) := pel_c pe_str fun _ _ _ => .str i
/-- a module's constant -/
theorem pel_gint {x : Str} {i : Int} {t : Tok} (hg : Gl X x) (hm : X.mg x = some (.int i t)) (hd : (x == ("__debug__" : Str)) = false := by decide) : PEL X (.Name x pos) (lC (.int i)) := pel_c (pe_glob hg hm (v := .int i) ⟨_, rfl⟩ hd) fun _ _ _ => .int i
theorem pel_gstr {x i : Str} {t : Tok} (hg : Gl X x) (hm : X.mg x = some (.str i t)) (hd : (x == ("__debug__" : Str)) = false := by decide) : PEL X (.Name x pos) (lC (.str i)) := pel_c (pe_glob hg hm (v := .str i) ⟨_, rfl⟩ hd) fun _ _ _ => .str i

def lift1 (o : Option D) (S : Sto) : R D := match o with
  | some d => .ok d S
  | none => .bad
def lBin (g : G2) (la lb : LE) : LE := fun ρ S => (la ρ S).bind fun x S1 => (lb ρ S1).bind fun y S2 => lift1 (g S2 x y) S2
theorem lift_ok {o : Option D} {S : Sto} {X : Cx} {σ : L2.St} {m : List Addr} {H : Hp} (h : Hope X σ m H (lift1 o S)) : ∃ d, o = some d := by
  cases o with
  | none => exact absurd rfl h.1
  | some d => exact ⟨d, rfl⟩
theorem run_bin {g : G2} {f : Value → Value → Sem Value} (ha : PEL X a la) (hb : PEL X b lb) (ho : OpL X f g) {pins : List (Addr × Obj)} {s : Shared} {σ : L2.St} {H : Hp} {m : List Addr} {ρ : Ev} {S : Sto} (I : Inv X pins σ H s) (x : SR X.K m H S) (r : ER X.K m H σ ρ) (hp : Hope X σ m H (lBin g la lb ρ S)) :
    wpAny (model X.prog X.w) X.A (eval a X.env) (fun v s₁ => wpAny (model X.prog X.w) X.A (eval b X.env) (fun u s₂ => wpAny (model X.prog X.w) X.A (f v u) (VPr X pins σ m H (lBin g la lb ρ S)) X.xe s₂) X.xe s₁) X.xe s := by
  refine run_seq ha I x r hp fun dx S1 q1 v u s1 H1 m1 I1 rv e1 x1 w1 r1 hp1 => ?_
  refine run_seq hb I1 x1 r1 hp1 fun dy S2 q2 v2 u2 s2 H2 m2 I2 rv2 e2 x2 w2 r2 hp2 => ?_
  obtain ⟨d, q3⟩ := lift_ok hp2
  have e : lBin g la lb ρ S = .ok d S2 := by
    unfold lBin; rw [q1, bind_ok, q2, bind_ok, q3]; rfl
  rw [e]
  exact thn (ho.run pins s2 σ H2 m2 S2 v v2 dx dy d u u2 I2 x2 (w1.ext e2 x1.muts) w2 rv rv2 q3) fun _ _ z => (vpr_of z).left (e1.trans e2)
theorem pel_op {op : Operator} {g : G2} (ho : OpL X (binaryOp op) g) (ha : PEL X a la) (hb : PEL X b lb) : PEL X (.BinOp a op b pos) (lBin g la lb) :=
  ⟨fun pins s σ H m ρ S I x r hp => wpAny_BinOp (run_bin ha hb ho I x r hp)⟩
theorem pel_cmp {op : CmpOp} {g : G2} (ho : OpL X (compareOp op) g) (ha : PEL X a la) (hb : PEL X b lb) (hm : behindInMarks op b = false := by first | exact nobehind _ (by decide) (by decide) | rfl) : PEL X (.Compare a [op] [b] pos) (lBin g la lb) :=
  ⟨fun pins s σ H m ρ S I x r hp => wpAny_Compare1 (run_bin ha hb ho I x r hp) hm⟩
/-- a one-place operation -/
structure UnL (X : Cx) (f : Value → Sem Value) (g : Sto → D → Option D) : Prop where
  run : ∀ (pins : List (Addr × Obj)) (s : Shared) (σ : L2.St) (H : Hp) (m : List Addr) (S : Sto) (x : V) (dx d : D) (v : Value), Inv X pins σ H s → SR X.K m H S → VR X.K m H x dx → RelV x v → g S dx = some d →
    wpAny (model X.prog X.w) X.A (f v) (VP X pins σ m H d S) X.xe s
def lUn (g : Sto → D → Option D) (la : LE) : LE := fun ρ S => (la ρ S).bind fun x S1 => lift1 (g S1 x) S1
def gNeg (S : Sto) : D → Option D
  | .int i => some (.int (-i))
  | _ => none
/-! ### tests -/
/-- truth of a value -/
def truth (S : Sto) (d : D) : Option Bool := match vw S d with
  | .non => some false
  | .bl b => some b
  | .int i => some (i != 0)
  | .str s => if s.length ≤ sizeLine then some ((s.length : Int) != 0) else none
  | .tup xs => some (!xs.isEmpty)
  | .lst xs => some (!xs.isEmpty)
  | .ftup xs => some (!xs.isEmpty)
  | _ => none
theorem tru_of {K : PySem.W.Frag} {m : List Addr} {H : Hp} {S : Sto} {v : V} {d : D} {k : Bool} (x : SR K m H S) (r : VR K m H v d) (h : truth S d = some k) : TruV K v H k := by
  unfold truth at h
  split at h
  · rename_i e
    have : v = .non := by
      cases r with
      | non => rfl
      | @ref i a h' =>
        dsimp only [vw] at e
        cases q : S[i]? with
        | none => rw [q] at e; cases e
        | some ob => rw [q] at e; cases ob <;> cases e
      | _ => cases e
    subst this; cases h; rfl
  · rename_i b e
    rw [vw_bl r e]; cases h; rfl
  · rename_i b e
    rw [vw_int r e]; cases h; rfl
  · rename_i b e
    rw [vw_str r e]
    split at h
    · cases h; exact ⟨‹_›, rfl⟩
    · cases h
  · rename_i b e
    obtain ⟨a, vs, rfl, h1, h2⟩ := vw_tup r e
    cases h
    exact .inr (.inl ⟨vs, SqT.of h1, by cases h2 <;> rfl⟩)
  · rename_i b e
    obtain ⟨a, vs, rfl, h1, h2⟩ := vw_lst x r e
    cases h
    exact .inl ⟨vs, h1, by cases h2 <;> rfl⟩
  · rename_i b e
    obtain ⟨a, vs, o, rfl, _, h1, h2⟩ := vw_ftup r e
    cases h
    exact .inr (.inl ⟨vs, SqT.rd (.inr ⟨o, h1⟩), by cases h2 <;> rfl⟩)
  · cases h
def liftB (o : Option Bool) (S : Sto) : R Bool := match o with
  | some d => .ok d S
  | none => .bad
def tTru (l : LE) : LT := fun ρ S => (l ρ S).bind fun d S1 => liftB (truth S1 d) S1
theorem liftB_ok {o : Option Bool} {S : Sto} {X : Cx} {σ : L2.St} {m : List Addr} {H : Hp} (h : Hope X σ m H (liftB o S)) : ∃ d, o = some d := by
  cases o with
  | none => exact absurd rfl h.1
  | some d => exact ⟨d, rfl⟩
theorem tru_run {pins : List (Addr × Obj)} {s s1 : Shared} {σ : L2.St} {H H1 : Hp} {m m1 : List Addr} {ρ : Ev} {S S1 : Sto} {d : D} {v : V} {u : Value} (q1 : l ρ S = .ok d S1) (I1 : Inv X pins σ H1 s1) (rv : RelV v u) (e1 : Ext m H m1 H1) (x1 : SR X.K m1 H1 S1) (w1 : VR X.K m1 H1 v d) (hp1 : Hope X σ m1 H1 (liftB (truth S1 d) S1)) :
    wpAny (model X.prog X.w) X.A (truthy u) (TPr X pins σ m H (tTru l ρ S)) X.xe s1 := by
  obtain ⟨b, q3⟩ := liftB_ok hp1
  have e : tTru l ρ S = .ok b S1 := by
    unfold tTru; rw [q1, bind_ok, q3]; rfl
  rw [e]
  refine thn (tru_ok pins s1 σ H1 v u (fun c H' => c = b ∧ H' = H1) I1 rv ⟨b, tru_of x1 w1 q3, rfl, rfl⟩) fun c s2 ⟨H2, I2, ec, eh⟩ => ?_
  subst ec eh
  exact ⟨S1, H2, m1, rfl, I2, e1, x1⟩
theorem ptl_truth (ha : PEL X a l) (he : ∀ whole, isTrue a X.env whole = (do let v ← whole; standAt a.pos; holding [v] (truthy v)) := by intro _; rfl) : PTL X a (tTru l) :=
  ⟨fun pins s σ H m ρ S I x r hp => isTrue_plain (run_seq ha I x r hp fun d S1 q1 v u s1 H1 m1 I1 rv e1 x1 w1 r1 hp1 => tru_run (s := s) q1 I1 rv e1 x1 w1 hp1) (he _)⟩
theorem ptl_cmp {op : CmpOp} {g : G2} (ho : OpL X (compareOp op) g) (ha : PEL X a la) (hb : PEL X b lb) (hm : behindInMarks op b = false := by first | exact nobehind _ (by decide) (by decide) | rfl) : PTL X (.Compare a [op] [b] pos) (tTru (lBin g la lb)) := by
  refine ⟨fun pins s σ H m ρ S I x r hp => ?_⟩
  have hp0 : Hope X σ m H (lBin g la lb ρ S) := by
    unfold tTru at hp
    cases q : lBin g la lb ρ S with
    | bad => rw [q] at hp; exact absurd rfl hp.1
    | exc C fs S' => rw [q] at hp; exact hp.exc
    | ok d S1 => exact Hope.ok
  refine wpAny_isTrue_Compare1 (thn (run_bin ha hb ho I x r hp0) fun v s1 h1 => thn h1 fun u s2 h2 => thn h2 fun w s3 ⟨d, S3, q, v3, H3, m3, I3, rv, e3, x3, w3⟩ => ?_) hm
  refine tru_run (s := s) q I3 rv e3 x3 w3 ?_
  unfold tTru at hp
  rw [q, bind_ok] at hp
  exact hp.ext e3
/-- and, or, not in tests -/
structure PWL (X : Cx) (e : Expr) (l : LT) : Prop where
  run : ∀ (whole : Sem Value) (pins : List (Addr × Obj)) (s : Shared) (σ : L2.St) (H : Hp) (m : List Addr) (ρ : Ev) (S : Sto), Inv X pins σ H s → SR X.K m H S → ER X.K m H σ ρ → Hope X σ m H (l ρ S) →
    wpAny (model X.prog X.w) X.A (isTrue e X.env whole) (TPr X pins σ m H (l ρ S)) X.xe s
theorem PWL.pt {l : LT} (h : PWL X e l) : PTL X e l := ⟨h.run _⟩
variable {ta tb tc : LT} {rest : List Expr}
def tAnd (ta tb : LT) : LT := fun ρ S => (ta ρ S).bind fun b S1 => if b = true then tb ρ S1 else .ok false S1
def tOr (ta tb : LT) : LT := fun ρ S => (ta ρ S).bind fun b S1 => if b = true then .ok true S1 else tb ρ S1
def tNot (ta : LT) : LT := fun ρ S => (ta ρ S).bind fun b S1 => .ok (!b) S1
theorem tpr_ok {pins : List (Addr × Obj)} {σ : L2.St} {H H1 : Hp} {m m1 : List Addr} {S1 : Sto} {b : Bool} {s1 : Shared} {r : R Bool} (I1 : Inv X pins σ H1 s1) (e1 : Ext m H m1 H1) (x1 : SR X.K m1 H1 S1) (q : r = .ok b S1) : TPr X pins σ m H r b s1 := ⟨S1, H1, m1, q, I1, e1, x1⟩
theorem pwl_and1 (ha : PTL X a ta) : PWL X (.BoolOp .And [a] pos) ta := by
  refine ⟨fun wh pins s σ H m ρ S I x r hp => ?_⟩
  refine isTrue_and (thn (ha.run pins s σ H m ρ S I x r hp) fun c s1 e => ?_)
  cases c with
  | true => exact isTrue_and_nil e
  | false => exact e
theorem pwl_or1 (ha : PTL X a ta) : PWL X (.BoolOp .Or [a] pos) ta := by
  refine ⟨fun wh pins s σ H m ρ S I x r hp => ?_⟩
  refine isTrue_or (thn (ha.run pins s σ H m ρ S I x r hp) fun c s1 e => ?_)
  cases c with
  | false => exact isTrue_or_nil e
  | true => exact e
theorem pwl_and (ha : PTL X a ta) (hb : PWL X (.BoolOp .And (b :: rest) pos) tb) : PWL X (.BoolOp .And (a :: b :: rest) pos) (tAnd ta tb) := by
  refine ⟨fun wh pins s σ H m ρ S I x r hp => ?_⟩
  refine isTrue_and (run_seqT ha I x r hp fun c S1 q1 s1 H1 m1 I1 e1 x1 r1 hp1 => ?_)
  cases c with
  | true =>
    have e : tAnd ta tb ρ S = tb ρ S1 := by unfold tAnd; rw [q1]; rfl
    rw [e]
    exact thn (hb.run wh pins s1 σ H1 m1 ρ S1 I1 x1 r1 hp1) fun _ _ z => z.left e1
  | false => exact tpr_ok I1 e1 x1 (by unfold tAnd; rw [q1]; rfl)
theorem pwl_or (ha : PTL X a ta) (hb : PWL X (.BoolOp .Or (b :: rest) pos) tb) : PWL X (.BoolOp .Or (a :: b :: rest) pos) (tOr ta tb) := by
  refine ⟨fun wh pins s σ H m ρ S I x r hp => ?_⟩
  refine isTrue_or (run_seqT ha I x r hp fun c S1 q1 s1 H1 m1 I1 e1 x1 r1 hp1 => ?_)
  cases c with
  | false =>
    have e : tOr ta tb ρ S = tb ρ S1 := by unfold tOr; rw [q1]; rfl
    rw [e]
    exact thn (hb.run wh pins s1 σ H1 m1 ρ S1 I1 x1 r1 hp1) fun _ _ z => z.left e1
  | true => exact tpr_ok I1 e1 x1 (by unfold tOr; rw [q1]; rfl)
theorem ptl_not (ha : PTL X a ta) : PTL X (.UnaryOp .Not a pos) (tNot ta) := by
  refine ⟨fun pins s σ H m ρ S I x r hp => ?_⟩
  refine isTrue_not (run_seqT ha I x r hp fun c S1 q1 s1 H1 m1 I1 e1 x1 r1 hp1 => ?_)
  exact tpr_ok I1 e1 x1 (by unfold tNot; rw [q1, bind_ok])
end
end MP

namespace MP
open PySem PySem.Spec PyProof.Rows L2

section
variable {X : Cx} {a b c e o : Expr} {la lb lc l lo : LE} {pos : Pos} {es rest : List Expr} {t : LA} {tc : LT}
/-! ### and, or, not, if .. else as values -/
def lAndV (la lb : LE) : LE := fun ρ S => (la ρ S).bind fun d S1 => (liftB (truth S1 d) S1).bind fun k S2 => if k = true then lb ρ S2 else .ok d S2
def lOrV (la lb : LE) : LE := fun ρ S => (la ρ S).bind fun d S1 => (liftB (truth S1 d) S1).bind fun k S2 => if k = true then .ok d S2 else lb ρ S2
def lNotV (la : LE) : LE := fun ρ S => (la ρ S).bind fun d S1 => (liftB (truth S1 d) S1).bind fun k S2 => .ok (.bl (!k)) S2
theorem pel_one {op : BoolOp} (h : PEL X a l) : PEL X (.BoolOp op [a] pos) l := ⟨fun pins s σ H m ρ S I x r hp => BoolOp_one (h.run pins s σ H m ρ S I x r hp)⟩
theorem bind_liftB {α : Type} {ob : Option Bool} {S : Sto} {f : Bool → Sto → R α} {X : Cx} {σ : L2.St} {m : List Addr} {H : Hp} (h : Hope X σ m H ((liftB ob S).bind f)) : ∃ k, ob = some k := by
  cases ob with
  | none => exact absurd rfl h.1
  | some k => exact ⟨k, rfl⟩
theorem tru_step {pins : List (Addr × Obj)} {s1 : Shared} {σ : L2.St} {H1 : Hp} {m1 : List Addr} {S1 : Sto} {d : D} {v : V} {u : Value} {k : Bool} (I1 : Inv X pins σ H1 s1) (rv : RelV v u) (x1 : SR X.K m1 H1 S1) (w1 : VR X.K m1 H1 v d) (hk : truth S1 d = some k) {Q : Bool → Shared → Prop}
    (h : ∀ s2, Inv X pins σ H1 s2 → Q k s2) : wpAny (model X.prog X.w) X.A (truthy u) Q X.xe s1 :=
  thn (tru_ok pins s1 σ H1 v u (fun c H' => c = k ∧ H' = H1) I1 rv ⟨k, tru_of x1 w1 hk, rfl, rfl⟩) fun c s2 ⟨H2, I2, ec, eh⟩ => by
    subst ec eh
    exact h s2 I2
theorem pel_and (ha : PEL X a la) (hb : PEL X (.BoolOp .And (b :: rest) pos) lb) : PEL X (.BoolOp .And (a :: b :: rest) pos) (lAndV la lb) := by
  refine ⟨fun pins s σ H m ρ S I x r hp => ?_⟩
  refine BoolOp_and (run_seq ha I x r hp fun d S1 q1 v u s1 H1 m1 I1 rv e1 x1 w1 r1 hp1 => ?_)
  obtain ⟨k, hk⟩ := bind_liftB hp1
  refine tru_step I1 rv x1 w1 hk fun s2 I2 => ?_
  have e0 : lAndV la lb ρ S = if k = true then lb ρ S1 else .ok d S1 := by unfold lAndV; rw [q1, bind_ok, hk]; rfl
  rw [hk] at hp1
  rw [e0]
  cases k with
  | true => exact thn (hb.run pins s2 σ H1 m1 ρ S1 I2 x1 r1 hp1) fun _ _ z => z.left e1
  | false => exact ⟨d, S1, rfl, v, H1, m1, I2, rv, e1, x1, w1⟩
theorem pel_or (ha : PEL X a la) (hb : PEL X (.BoolOp .Or (b :: rest) pos) lb) : PEL X (.BoolOp .Or (a :: b :: rest) pos) (lOrV la lb) := by
  refine ⟨fun pins s σ H m ρ S I x r hp => ?_⟩
  refine BoolOp_or (run_seq ha I x r hp fun d S1 q1 v u s1 H1 m1 I1 rv e1 x1 w1 r1 hp1 => ?_)
  obtain ⟨k, hk⟩ := bind_liftB hp1
  refine tru_step I1 rv x1 w1 hk fun s2 I2 => ?_
  have e0 : lOrV la lb ρ S = if k = true then .ok d S1 else lb ρ S1 := by unfold lOrV; rw [q1, bind_ok, hk]; rfl
  rw [hk] at hp1
  rw [e0]
  cases k with
  | false => exact thn (hb.run pins s2 σ H1 m1 ρ S1 I2 x1 r1 hp1) fun _ _ z => z.left e1
  | true => exact ⟨d, S1, rfl, v, H1, m1, I2, rv, e1, x1, w1⟩
def lIf (t : LT) (la lb : LE) : LE := fun ρ S => (t ρ S).bind fun k S1 => if k = true then la ρ S1 else lb ρ S1
theorem pel_ifExp (hc : PTL X c tc) (ha : PEL X a la) (hb : PEL X b lb) : PEL X (.IfExp c a b pos) (lIf tc la lb) := by
  refine ⟨fun pins s σ H m ρ S I x r hp => ?_⟩
  refine wpAny_IfExp (run_seqT hc I x r hp fun k S1 q1 s1 H1 m1 I1 e1 x1 r1 hp1 => ?_)
  have e0 : lIf tc la lb ρ S = if k = true then la ρ S1 else lb ρ S1 := by unfold lIf; rw [q1]; rfl
  rw [e0]
  cases k with
  | true => exact thn (ha.run pins s1 σ H1 m1 ρ S1 I1 x1 r1 hp1) fun _ _ z => z.left e1
  | false => exact thn (hb.run pins s1 σ H1 m1 ρ S1 I1 x1 r1 hp1) fun _ _ z => z.left e1

/-! ### arguments, displays -/
def aNil : LA := fun _ S => .ok [] S
def aCons (la : LE) (t : LA) : LA := fun ρ S => (la ρ S).bind fun d S1 => (t ρ S1).bind fun ds S2 => .ok (d :: ds) S2
theorem pal_nil : PAL X [] aNil := ⟨fun pos pins s σ H m ρ S I x r hp => Calls.spliced_nil ⟨[], S, [], H, m, rfl, I, .nil, Ext.refl, x, .nil⟩⟩
theorem pal_cons (ha : PEL X e la) (hr : PAL X es t) (hs : starEach (e :: es) X.env = (false, eval e X.env) :: starEach es X.env := by rfl) : PAL X (e :: es) (aCons la t) := by
  refine ⟨fun pos pins s σ H m ρ S I x r hp => ?_⟩
  rw [hs]
  show wpAny _ _ (spliced ((false, eval e X.env) :: backTo pos (starEach es X.env))) _ _ s
  refine Calls.spliced_cons (run_seq ha I x r hp fun d S1 q1 v u s1 H1 m1 I1 rv e1 x1 w1 r1 hp1 => ?_)
  refine run_seqA hr I1 x1 r1 hp1 fun ds S2 q2 vs us s2 H2 m2 I2 rvs e2 x2 w2 r2 hp2 => ?_
  exact ⟨d :: ds, S2, v :: vs, H2, m2, by unfold aCons; rw [q1, bind_ok, q2, bind_ok], I2, .cons rv rvs, e1.trans e2, x2, .cons (w1.ext e2 x1.muts) w2⟩
def lTup (t : LA) : LE := fun ρ S => (t ρ S).bind fun ds S1 => if ds.length ≤ sizeLine then .ok (.tup ds) S1 else .bad
def lLst (t : LA) : LE := fun ρ S => (t ρ S).bind fun ds S1 => if ds.length ≤ sizeLine then .ok (.lst ds) S1 else .bad
/-- a list that is put into the store -/
def lLstN (t : LA) : LE := fun ρ S => (t ρ S).bind fun ds S1 => if ds.length ≤ sizeLine then .ok (.ref S1.length) (S1 ++ [.lst ds]) else .bad
theorem hope_if {α : Type} {p : Prop} [Decidable p] {r : R α} {X : Cx} {σ : L2.St} {m : List Addr} {H : Hp} (h : Hope X σ m H (if p then r else .bad)) : p := by
  by_cases q : p
  · exact q
  · rw [if_neg q] at h; exact absurd rfl h.1
theorem pel_tup {x1 : Nat} (h : PAL X es t) : PEL X (.Tuple es x1 pos) (lTup t) := by
  refine ⟨fun pins s σ H m ρ S I x r hp => ?_⟩
  refine wpAny_Tuple_spliced (run_seqA h I x r hp fun ds S1 q1 vs us s1 H1 m1 I1 rv e1 x1 w1 r1 hp1 => ?_)
  have hz := hope_if hp1
  refine ⟨by rw [← rv.length, w1.length]; exact hz, ?_⟩
  have hf : H1 s1.heap.objs.size = none := I1.hok.fresh (Nat.le_refl _)
  have e0 : lTup t ρ S = .ok (.tup ds) S1 := by unfold lTup; rw [q1, bind_ok, if_pos hz]
  rw [e0]
  refine (vpr_of ⟨.ref s1.heap.objs.size, upd H1 s1.heap.objs.size (.tup vs), m1, I1.laid (t' := s1.toks) (fun b u e => Heap.get?_push_of_some _ e) (Nat.le_refl _) ?_, rfl, Ext.fresh hf, x1.fresh hf, vr_newTup x1 hf w1⟩).left e1
  exact ⟨by rw [w1.length]; exact hz, us, rv, ⟨_, Heap.get?_push_size _ rfl, rfl, _, rfl⟩⟩
theorem pel_lst (h : PAL X es t) : PEL X (.List es pos) (lLst t) := by
  refine ⟨fun pins s σ H m ρ S I x r hp => ?_⟩
  refine wpAny_List_spliced (run_seqA h I x r hp fun ds S1 q1 vs us s1 H1 m1 I1 rv e1 x1 w1 r1 hp1 => ?_)
  have hz := hope_if hp1
  refine ⟨by rw [← rv.length, w1.length]; exact hz, ?_⟩
  have hf : H1 s1.heap.objs.size = none := I1.hok.fresh (Nat.le_refl _)
  have e0 : lLst t ρ S = .ok (.lst ds) S1 := by unfold lLst; rw [q1, bind_ok, if_pos hz]
  rw [e0]
  refine (vpr_of ⟨.ref s1.heap.objs.size, upd H1 s1.heap.objs.size (.lst vs), m1, I1.laid (t' := s1.toks) (fun b u e => Heap.get?_push_of_some _ e) (Nat.le_refl _) ?_, rfl, Ext.fresh hf, x1.fresh hf, vr_newLst x1 hf w1⟩).left e1
  exact ⟨by rw [w1.length]; exact hz, us, 0, rv, Heap.get?_push_size _ rfl⟩
theorem pel_lstN (h : PAL X es t) : PEL X (.List es pos) (lLstN t) := by
  refine ⟨fun pins s σ H m ρ S I x r hp => ?_⟩
  refine wpAny_List_spliced (run_seqA h I x r hp fun ds S1 q1 vs us s1 H1 m1 I1 rv e1 x1 w1 r1 hp1 => ?_)
  have hz := hope_if hp1
  refine ⟨by rw [← rv.length, w1.length]; exact hz, ?_⟩
  have hf : H1 s1.heap.objs.size = none := I1.hok.fresh (Nat.le_refl _)
  have e0 : lLstN t ρ S = .ok (.ref S1.length) (S1 ++ [.lst ds]) := by unfold lLstN; rw [q1, bind_ok, if_pos hz]
  rw [e0]
  obtain ⟨m', z1, z2, z3⟩ := qv_newL x1 hf w1
  refine (vpr_of ⟨.ref s1.heap.objs.size, upd H1 s1.heap.objs.size (.lst vs), m', I1.laid (t' := s1.toks) (fun b u e => Heap.get?_push_of_some _ e) (Nat.le_refl _) ?_, rfl, z1, z2, z3⟩).left e1
  exact ⟨by rw [w1.length]; exact hz, us, 0, rv, Heap.get?_push_size _ rfl⟩

/-! ### chains a < b < c -/
def lChain (g g' : G2) (la lb lc : LE) : LE := fun ρ S => (la ρ S).bind fun x S1 => (lb ρ S1).bind fun y S2 => (lift1 (g S2 x y) S2).bind fun d S3 => match d with
  | .bl true => (lc ρ S3).bind fun z S4 => lift1 (g' S4 y z) S4
  | .bl false => .ok (.bl false) S3
  | _ => .bad
theorem ptl_chain {op op' : CmpOp} {g g' : G2} (ho : OpL X (compareOp op) g) (ho' : OpL X (compareOp op') g') (ha : PEL X a la) (hb : PEL X b lb) (hc : PEL X c lc)
    (hm : lastMarks [op, op'] [b, c] = false := by with_unfolding_all rfl) : PTL X (.Compare a [op, op'] [b, c] pos) (tTru (lChain g g' la lb lc)) := by
  refine ⟨fun pins s σ H m ρ S I x r hp => ?_⟩
  have hp0 : Hope X σ m H (lChain g g' la lb lc ρ S) := by
    unfold tTru at hp
    cases q : lChain g g' la lb lc ρ S with
    | bad => rw [q] at hp; exact absurd rfl hp.1
    | exc C fs S' => rw [q] at hp; exact hp.exc
    | ok d S1 => exact Hope.ok
  refine isTrue_chain (run_seq ha I x r hp0 fun dx S1 q1 v u s1 H1 m1 I1 rv e1 x1 w1 r1 hp1 => test_link (run_seq hb I1 x1 r1 hp1 fun dy S2 q2 v2 u2 s2 H2 m2 I2 rv2 e2 x2 w2 r2 hp2 => ?_)) hm
  cases q3 : g S2 dx dy with
  | none => rw [q3] at hp2; exact absurd rfl hp2.1
  | some d =>
    refine thn (ho.run pins s2 σ H2 m2 S2 v v2 dx dy d u u2 I2 x2 (w1.ext e2 x1.muts) w2 rv rv2 q3) fun w s3 ⟨v3, H3, m3, I3, rv3, e3, x3, w3⟩ => ?_
    rw [q3] at hp2
    have r3 := r2.ext e3 x2.muts
    have hp3 := hp2.ext e3
    cases w3 with
    | bl k =>
      cases rv3
      refine wpAny_truthy_bool ?_
      cases k with
      | false =>
        refine ite_ff ?_
        have e0 : lChain g g' la lb lc ρ S = .ok (.bl false) S2 := by unfold lChain; rw [q1, bind_ok, q2, bind_ok, q3]; rfl
        exact ⟨S2, H3, m3, by unfold tTru; rw [e0]; rfl, I3, (e1.trans e2).trans e3, x3⟩
      | true =>
        have e0 : lChain g g' la lb lc ρ S = (lc ρ S2).bind fun z S4 => lift1 (g' S4 dy z) S4 := by unfold lChain; rw [q1, bind_ok, q2, bind_ok, q3]; rfl
        refine ite_tt (test_last (run_seq hc I3 x3 r3 (show Hope X σ m3 H3 ((lc ρ S2).bind fun z S4 => lift1 (g' S4 dy z) S4) from hp3) fun dz S4 q4 v4 u4 s4 H4 m4 I4 rv4 e4 x4 w4 r4 hp4 => ?_))
        obtain ⟨dd, q5⟩ := lift_ok hp4
        have e5 : lChain g g' la lb lc ρ S = .ok dd S4 := by rw [e0, q4, bind_ok, q5]; rfl
        refine thn (ho'.run pins s4 σ H4 m4 S4 v2 v4 dy dz dd u2 u4 I4 x4 ((w2.ext e3 x2.muts).ext e4 x3.muts) w4 rv2 rv4 q5) fun w' s5 ⟨v5, H5, m5, I5, rv5, e5', x5, w5⟩ => ?_
        refine tru_run (s := s) e5 I5 rv5 ((((e1.trans e2).trans e3).trans e4).trans e5') x5 w5 ?_
        unfold tTru at hp
        rw [e5, bind_ok] at hp
        exact hp.ext ((((e1.trans e2).trans e3).trans e4).trans e5')
    | _ => exact absurd rfl hp2.1
end
end MP

namespace MP
open PySem PySem.Spec PyProof.Rows L2

section
variable {X : Cx} {a b c e o : Expr} {la lb lc l lo : LE} {pos p apos cpos : Pos} {es rest : List Expr} {t : LA} {tc : LT} {x : Str}
/-! ### subscripts -/
structure IxL (X : Cx) (g : G2) : Prop where
  run : ∀ (value slice : Expr) (pins : List (Addr × Obj)) (s : Shared) (σ : L2.St) (H : Hp) (m : List Addr) (S : Sto) (x y : V) (dx dy d : D) (v u : Value), Inv X pins σ H s → SR X.K m H S → VR X.K m H x dx → VR X.K m H y dy → RelV x v → RelV y u → g S dx dy = some d →
    (∀ o i, subscripted slice false o i = operate [o, i] (getItem o i)) → wpAny (model X.prog X.w) X.A (subscriptTail value slice v u) (VP X pins σ m H d S) X.xe s
theorem IxL.of {r : R2} {g : G2} (h : IxR X r)
    (hg : ∀ (H : Hp) (m : List Addr) (S : Sto) (x y : V) (dx dy d : D), SR X.K m H S → VR X.K m H x dx → VR X.K m H y dy → g S dx dy = some d → r x y H (QV X.K m H S d)) : IxL X g :=
  ⟨fun value slice pins s σ H m S x y dx dy d v u I q rx ry ex ey e hs => thn (h value slice pins s σ H x y v u _ I ex ey (hg H m S x y dx dy d q rx ry e) (hs _ _)) fun _ _ z => vp_of z⟩
theorem IxL.or {g g' : G2} (h : IxL X g) (h' : IxL X g') : IxL X (fun S x y => (g S x y).or (g' S x y)) :=
  ⟨fun value slice pins s σ H m S x y dx dy d v u I q rx ry ex ey e hs => by
    cases z : g S dx dy with
    | some d' =>
      rw [z] at e
      cases e
      exact h.run value slice pins s σ H m S x y dx dy _ v u I q rx ry ex ey z hs
    | none =>
      rw [z] at e
      exact h'.run value slice pins s σ H m S x y dx dy _ v u I q rx ry ex ey e hs⟩
theorem pel_ix {g : G2} (hr : IxL X g) (ha : PEL X a la) (hb : PEL X b lb) (hs : PlainIx b := by intro _ _; rfl) : PEL X (.Subscript a b pos) (lBin g la lb) := by
  refine ⟨fun pins s σ H m ρ S I x r hp => ?_⟩
  refine Subscript_ (run_seq ha I x r hp fun dx S1 q1 v u s1 H1 m1 I1 rv e1 x1 w1 r1 hp1 => run_seq hb I1 x1 r1 hp1 fun dy S2 q2 v2 u2 s2 H2 m2 I2 rv2 e2 x2 w2 r2 hp2 => ?_)
  obtain ⟨d, q3⟩ := lift_ok hp2
  have e : lBin g la lb ρ S = .ok d S2 := by
    unfold lBin; rw [q1, bind_ok, q2, bind_ok, q3]; rfl
  rw [e]
  exact thn (hr.run a b pins s2 σ H2 m2 S2 v v2 dx dy d u u2 I2 x2 (w1.ext e2 x1.muts) w2 rv rv2 q3 hs) fun _ _ z => (vpr_of z).left (e1.trans e2)
def gIx : G2 := fun S x y => match vw S x, vw S y with
  | .lst xs, .int i => atI xs i
  | .tup xs, .int i => atI xs i
  | .str z, .int i => if z.length ≤ sizeLine then (atI z.cps.toList i).map fun c => .str ⟨#[c]⟩ else none
  | _, _ => none
theorem VRs.atI {K : PySem.W.Frag} {m : List Addr} {H : Hp} {vs : List V} {ds : List D} {i : Int} {d : D} (r : VRs K m H vs ds) (e : atI ds i = some d) : ∃ v, L2.atI vs i = some v ∧ VR K m H v d := by
  unfold L2.atI at e ⊢
  rw [r.length]
  cases q : ixN ds.length i with
  | none => rw [q] at e; cases e
  | some j =>
    rw [q] at e
    exact r.getr e
theorem ixl_seq : IxL X gIx := .of ix_seq fun H m S x y dx dy d q rx ry e => by
  unfold gIx at e
  split at e
  · rename_i xs i e1 e2
    obtain ⟨a, vs, rfl, h1, r⟩ := vw_lst q rx e1
    obtain ⟨v, h2, w⟩ := r.atI e
    exact .inl ⟨a, vs, i, v, rfl, vw_int ry e2, h1, h2, qv_same q w⟩
  · rename_i xs i e1 e2
    obtain ⟨a, vs, rfl, h1, r⟩ := vw_tup rx e1
    obtain ⟨v, h2, w⟩ := r.atI e
    exact .inr (.inl ⟨a, vs, i, v, rfl, vw_int ry e2, SqT.of h1, h2, qv_same q w⟩)
  · rename_i z i e1 e2
    split at e
    · cases h : L2.atI z.cps.toList i with
      | none => rw [h] at e; cases e
      | some c =>
        rw [h] at e
        cases e
        exact .inr (.inr ⟨z, i, c, vw_str rx e1, vw_int ry e2, ‹_›, h, qv_same q (.str _)⟩)
    · cases e
  · cases e

/-! ### slices -/
abbrev LO := Ev → Sto → R (Option Int)
structure POL (X : Cx) (e : Option Expr) (l : LO) : Prop where
  run : ∀ (pins : List (Addr × Obj)) (s : Shared) (σ : L2.St) (H : Hp) (m : List Addr) (ρ : Ev) (S : Sto), Inv X pins σ H s → SR X.K m H S → ER X.K m H σ ρ → Hope X σ m H (l ρ S) →
    wpAny (model X.prog X.w) X.A (evalPart e X.env) (fun u s' => ∃ o S' H' m', l ρ S = .ok o S' ∧ Inv X pins σ H' s' ∧ IsPart u o ∧ Ext m H m' H' ∧ SR X.K m' H' S') X.xe s
def oNone : LO := fun _ S => .ok none S
def oSome (l : LE) : LO := fun ρ S => (l ρ S).bind fun d S1 => match d with
  | .int i => .ok (some i) S1
  | _ => .bad
theorem pol_none : POL X none oNone := ⟨fun pins s σ H m ρ S I x r hp => by
  rw [evalPart_none]
  exact wpAny_pure ⟨none, S, H, m, rfl, I, .none, Ext.refl, x⟩⟩
theorem pol_some (h : PEL X e l) : POL X (some e) (oSome l) := ⟨fun pins s σ H m ρ S I x r hp => by
  rw [evalPart_some]
  refine run_seq h I x r hp fun d S1 q1 v u s1 H1 m1 I1 rv e1 x1 w1 r1 hp1 => ?_
  cases w1 with
  | int i =>
    obtain ⟨t, rfl⟩ := rv
    exact ⟨some i, S1, H1, m1, by unfold oSome; rw [q1]; rfl, I1, .int i t, e1, x1⟩
  | _ => exact absurd rfl hp1.1⟩
def lSlice (g : Sto → D → Option Int → Option Int → Option D) (la : LE) (lo hi : LO) : LE := fun ρ S => (la ρ S).bind fun d S1 => (lo ρ S1).bind fun i S2 => (hi ρ S2).bind fun j S3 => lift1 (g S3 d i j) S3
structure SlL (X : Cx) (g : Sto → D → Option Int → Option Int → Option D) : Prop where
  run : ∀ (pins : List (Addr × Obj)) (s : Shared) (σ : L2.St) (H : Hp) (m : List Addr) (S : Sto) (x : V) (dx d : D) (v vl vu : Value) (lo hi : Option Int) (sl : Addr), Inv X pins σ H s → SR X.K m H S → VR X.K m H x dx → RelV x v → s.heap.IsSliceOf sl vl vu .none → IsPart vl lo → IsPart vu hi → g S dx lo hi = some d →
    ∃ T id, typeLookup (.type T) "__getitem__" = pure (some (.builtin id)) ∧ s.TypeIs v T ∧ wpAny (model X.prog X.w) X.A (getItem v (.ref sl)) (VP X pins σ m H d S) X.xe s
theorem hope_seq {α β : Type} {r : R α} {f : α → Sto → R β} {X : Cx} {σ : L2.St} {m : List Addr} {H : Hp} (h : Hope X σ m H (r.bind f)) : Hope X σ m H r := by
  cases r with
  | bad => exact absurd rfl h.1
  | exc C fs S' => exact h.exc
  | ok a S => exact Hope.ok
theorem pel_slice {g : Sto → D → Option Int → Option Int → Option D} {lo hi : Option Expr} {l1 l2 : LO} {p2 : Pos} (hr : SlL X g) (he : PEL X e l) (hl : POL X lo l1) (hu : POL X hi l2) : PEL X (.Subscript e (.Slice lo hi none p2) pos) (lSlice g l l1 l2) := by
  refine ⟨fun pins s σ H m ρ S I x r hp => ?_⟩
  refine Subscript_ (run_seq he I x r hp fun dx S1 q1 v u s1 H1 m1 I1 rv e1 x1 w1 r1 hp1 => ?_)
  refine wpAny_Slice (thn (hl.run pins s1 σ H1 m1 ρ S1 I1 x1 r1 (hope_seq hp1)) fun vl s2 ⟨i, S2, H2, m2, q2, I2, pl, e2, x2⟩ => ?_)
  rw [q2, bind_ok] at hp1
  have r2 := r1.ext e2 x1.muts
  have hp2 := Hope.ext hp1 e2
  refine thn (hu.run pins s2 σ H2 m2 ρ S2 I2 x2 r2 (hope_seq hp2)) fun vu s3 ⟨j, S3, H3, m3, q3, I3, pu, e3, x3⟩ => ?_
  rw [q3, bind_ok] at hp2
  obtain ⟨d, q4⟩ := lift_ok hp2
  rw [evalPart_none]
  refine wpAny_pure ?_
  have I4 : Inv X pins σ H3 { s3 with heap := s3.heap.push { cls := .type "slice", data := .fields #[vl, vu, .none] } } := I3.kept (t' := s3.toks) fun b ob q => Heap.get?_push_of_some _ q
  have w3 := (w1.ext e2 x1.muts).ext e3 x2.muts
  obtain ⟨T, id, hT, ht, hg⟩ := hr.run pins { s3 with heap := s3.heap.push { cls := .type "slice", data := .fields #[vl, vu, .none] } } σ H3 m3 S3 v dx d u vl vu i j s3.heap.objs.size I4 x3 w3 rv (Heap.IsSliceOf.new ..) pl pu q4
  have e0 : lSlice g l l1 l2 ρ S = .ok d S3 := by unfold lSlice; rw [q1, bind_ok, q2, bind_ok, q3, bind_ok, q4]; rfl
  rw [e0]
  show wpAny (model X.prog X.w) X.A (subscriptTail e (.Slice lo hi none p2) u (.ref s3.heap.objs.size)) _ X.xe { s3 with heap := s3.heap.push { cls := .type "slice", data := .fields #[vl, vu, .none] } }
  exact tail_any (ops := [.ref s3.heap.objs.size, u]) ht hT (thn hg fun _ _ z => (vpr_of z).left ((e1.trans e2).trans e3)) (by with_unfolding_all rfl)
def cutD (xs : List D) (lo hi : Option Int) : List D := (xs.drop (HT.sIx xs.length 0 lo)).take (HT.sIx xs.length xs.length hi - HT.sIx xs.length 0 lo)
theorem VRs.cut {K : PySem.W.Frag} {m : List Addr} {H : Hp} {vs : List V} {ds : List D} (r : VRs K m H vs ds) (lo hi : Option Int) : VRs K m H (cutV vs lo hi) (cutD ds lo hi) := by
  unfold cutV cutD
  rw [r.length]
  exact (r.drop _).take _
def gSlice (S : Sto) (x : D) (lo hi : Option Int) : Option D := match vw S x with
  | .lst xs => some (.lst (cutD xs lo hi))
  | .tup xs => some (.tup (cutD xs lo hi))
  | .ftup xs => if HT.sIx xs.length 0 lo = 0 ∧ HT.sIx xs.length xs.length hi = xs.length then some (.ftup xs) else some (.tup (cutD xs lo hi))
  | .str z => if z.length ≤ sizeLine then some (.str (cutS z lo hi)) else none
  | _ => none
theorem sIx_whole (n : Nat) {lo hi : Option Int} {ds : List D} (h : HT.sIx ds.length 0 lo = 0 ∧ HT.sIx ds.length ds.length hi = ds.length) : cutD ds lo hi = ds := by
  unfold cutD
  rw [h.1, h.2]
  simp
theorem sll_any : SlL X gSlice := ⟨fun pins s σ H m S x dx d v vl vu lo hi sl I q rx ev hs pl pu e => by
  unfold gSlice at e
  split at e
  · rename_i xs e1
    cases e
    obtain ⟨a, vs, rfl, h1, r⟩ := vw_lst q rx e1
    obtain ⟨T, id, h2, h3, h4⟩ := sl_list pins s σ H _ v vl vu lo hi sl (QV X.K m H S (.lst (cutD xs lo hi))) I ev hs pl pu ⟨a, vs, rfl, h1, fun p hp => qv_new q hp (vr_newLst q hp (r.cut lo hi))⟩
    exact ⟨T, id, h2, h3, thn h4 fun _ _ z => vp_of z⟩
  · rename_i xs e1
    cases e
    obtain ⟨a, vs, rfl, h1, r⟩ := vw_tup rx e1
    obtain ⟨T, id, h2, h3, h4⟩ := sl_tupA pins s σ H _ v vl vu lo hi sl (QV X.K m H S (.tup (cutD xs lo hi))) I ev hs pl pu
      ⟨a, vs, rfl, SqT.of h1, fun z => qv_same q (by rw [r.length] at z; rw [sIx_whole 0 z]; exact .tup h1 r), fun _ p hp => qv_new q hp (vr_newTup q hp (r.cut lo hi))⟩
    exact ⟨T, id, h2, h3, thn h4 fun _ _ z => vp_of z⟩
  · rename_i xs e1
    obtain ⟨a, vs, o, rfl, hd, h1, r⟩ := vw_ftup rx e1
    split at e
    · rename_i hw
      cases e
      obtain ⟨T, id, h2, h3, h4⟩ := sl_tupA pins s σ H _ v vl vu lo hi sl (QV X.K m H S (.ftup xs)) I ev hs pl pu
        ⟨a, vs, rfl, SqT.rd (.inr ⟨o, h1⟩), fun z => qv_same q (.ftup hd h1 r), fun z p hp => absurd (show _ ∧ _ by rw [r.length]; exact hw) z⟩
      exact ⟨T, id, h2, h3, thn h4 fun _ _ z => vp_of z⟩
    · rename_i hw
      cases e
      obtain ⟨T, id, h2, h3, h4⟩ := sl_tupA pins s σ H _ v vl vu lo hi sl (QV X.K m H S (.tup (cutD xs lo hi))) I ev hs pl pu
        ⟨a, vs, rfl, SqT.rd (.inr ⟨o, h1⟩), fun z => absurd (by rw [r.length] at z; exact z) hw, fun _ p hp => qv_new q hp (vr_newTup q hp (r.cut lo hi))⟩
      exact ⟨T, id, h2, h3, thn h4 fun _ _ z => vp_of z⟩
  · rename_i z e1
    split at e
    · cases e
      have e2 := vw_str rx e1
      subst e2
      obtain ⟨T, id, h2, h3, h4⟩ := sl_str pins s σ H _ v vl vu lo hi sl (QV X.K m H S (.str (cutS z lo hi))) I ev hs pl pu ⟨z, rfl, ‹_›, qv_same q (.str _)⟩
      exact ⟨T, id, h2, h3, thn h4 fun _ _ z => vp_of z⟩
    · cases e
  · cases e⟩

/-! ### attributes of objects -/
theorem VFs.look {K : PySem.W.Frag} {m : List Addr} {H : Hp} {fs : List (Str × V)} {gs : List (Str × D)} {f : Str} {d : D} : VFs K m H fs gs → gs.lookup f = some d → ∃ v, fs.lookup f = some v ∧ VR K m H v d
  | .nil, e => by simp at e
  | @VFs.cons _ _ _ g v d' vs ds h r, e => by
    by_cases q : f = g
    · subst q
      simp [List.lookup] at e
      subst e
      exact ⟨v, by simp [List.lookup], h⟩
    · have hb : (f == g) = false := beq_eq_false_iff_ne.mpr q
      simp only [List.lookup, hb] at e ⊢
      exact VFs.look r e
theorem VFs.lookN {K : PySem.W.Frag} {m : List Addr} {H : Hp} {fs : List (Str × V)} {gs : List (Str × D)} {f : Str} : VFs K m H fs gs → gs.lookup f = none → fs.lookup f = none
  | .nil, e => rfl
  | @VFs.cons _ _ _ g v d' vs ds h r, e => by
    by_cases q : f = g
    · subst q
      simp [List.lookup] at e
    · have hb : (f == g) = false := beq_eq_false_iff_ne.mpr q
      simp only [List.lookup, hb] at e ⊢
      exact VFs.lookN r e
def gFld (C : Addr) (f : Str) (S : Sto) (d : D) : Option D := match vw S d with
  | .obj C' fs => if C' = C then fs.lookup f else none
  | _ => none
def lFld (C : Addr) (f : Str) (l : LE) : LE := fun ρ S => (l ρ S).bind fun d S1 => lift1 (gFld C f S1 d) S1
theorem pel_fld {C : Addr} {f : Str} (cl : Cls X.K C) (na : NoAttr X.K C f) (he : PEL X e l) (hb : attributeBase e f X.env (eval e X.env) = eval e X.env := by rfl) : PEL X (.Attribute e f pos) (lFld C f l) := by
  refine ⟨fun pins s σ H m ρ S I x r hp => ?_⟩
  refine attr_of hb (run_seq he I x r hp fun d S1 q1 v u s1 H1 m1 I1 rv e1 x1 w1 r1 hp1 => ?_)
  obtain ⟨d', q2⟩ := lift_ok hp1
  have e0 : lFld C f l ρ S = .ok d' S1 := by unfold lFld; rw [q1, bind_ok, q2]; rfl
  rw [e0]
  unfold gFld at q2
  split at q2
  · rename_i C' gs q3
    split at q2
    · rename_i q4
      subst q4
      obtain ⟨a, dx, fs, rfl, h1, r2⟩ := vw_obj x1 w1 q3
      obtain ⟨w, h2, h3⟩ := r2.look q2
      obtain rfl : u = Value.ref a := rv
      exact getattr_ok I1 h1 cl na h2 fun u' s2 I2 ru => (vpr_of ⟨w, H1, m1, I2, ru, Ext.refl, x1, h3⟩).left e1
    · cases q2
  · cases q2

/-! ### built-in functions and types, called by values -/
abbrev GC := Sto → List D → Option D
structure CallL (X : Cx) (f : Value) (g : GC) : Prop where
  run : ∀ (pins : List (Addr × Obj)) (s : Shared) (σ : L2.St) (H : Hp) (m : List Addr) (S : Sto) (xs : List V) (ds : List D) (d : D) (us : List Value), Inv X pins σ H s → SR X.K m H S → VRs X.K m H xs ds → Vals xs us → g S ds = some d →
    wpAny (model X.prog X.w) X.A (call f us) (VP X pins σ m H d S) X.xe s
theorem CallL.of {f : Value} {r : List V → Hp → VK → Prop} {g : GC} (h : CallR X f r) (hg : ∀ (H : Hp) (m : List Addr) (S : Sto) (xs : List V) (ds : List D) (d : D), SR X.K m H S → VRs X.K m H xs ds → g S ds = some d → r xs H (QV X.K m H S d)) : CallL X f g :=
  ⟨fun pins s σ H m S xs ds d us I q r rv e => thn (h pins s σ H xs us _ I rv (hg H m S xs ds d q r e)) fun _ _ z => vp_of z⟩
theorem CallL.or {f : Value} {g g' : GC} (h : CallL X f g) (h' : CallL X f g') : CallL X f (fun S ds => (g S ds).or (g' S ds)) :=
  ⟨fun pins s σ H m S xs ds d us I q r rv e => by
    cases z : g S ds with
    | some d' =>
      rw [z] at e
      cases e
      exact h.run pins s σ H m S xs ds _ us I q r rv z
    | none =>
      rw [z] at e
      exact h'.run pins s σ H m S xs ds _ us I q r rv e⟩
def lCallB (g : GC) (t : LA) : LE := fun ρ S => (t ρ S).bind fun ds S1 => lift1 (g S1 ds) S1
theorem pel_callB {id : String} {g : GC} (hc : CallL X (.builtin id) g) (hg : Gl X x) (hm : X.mg x = none) (hv : bootBuiltins x = some (.builtin id)) (ha : PAL X (e :: es) t) (hn : x ≠ "__name__" := by decide) (hdb : (x == ("__debug__" : Str)) = false := by decide)
    (he : starEach (e :: es) X.env = (false, eval e X.env) :: starEach es X.env := by rfl) (hpl : (backTo pos (starEach es X.env)).any (·.1) = false := by rfl) : PEL X (.Call (.Name x p) (e :: es) [] pos) (lCallB g t) := by
  refine ⟨fun pins s σ H m ρ S I x r hp => ?_⟩
  refine wpAny_Call_Name_kw (ld_blt I hg hm hv ?_ hn hdb)
  refine PyProof.Rows.callWith_builtin1 (run_seqA ha I x r hp fun ds S1 q1 vs us s1 H1 m1 I1 rv e1 x1 w1 r1 hp1 => ?_) he hpl
  obtain ⟨d', q2⟩ := lift_ok hp1
  have e0 : lCallB g t ρ S = .ok d' S1 := by unfold lCallB; rw [q1, bind_ok, q2]; rfl
  rw [e0]
  exact thn (hc.run pins s1 σ H1 m1 S1 vs ds d' us I1 x1 w1 rv q2) fun _ _ z => (vpr_of z).left e1
theorem pel_callTy {T : String} {g : GC} (hc : CallL X (.type T) g) (hg : Gl X x) (hm : X.mg x = none) (hv : bootBuiltins x = some (.type T)) (ha : PAL X (e :: es) t) (hn : x ≠ "__name__" := by decide) (hdb : (x == ("__debug__" : Str)) = false := by decide)
    (he : starEach (e :: es) X.env = (false, eval e X.env) :: starEach es X.env := by rfl) (hpl : (backTo pos (starEach es X.env)).any (·.1) = false := by rfl) : PEL X (.Call (.Name x p) (e :: es) [] pos) (lCallB g t) := by
  refine ⟨fun pins s σ H m ρ S I x r hp => ?_⟩
  refine wpAny_Call_Name_kw (ld_blt I hg hm hv ?_ hn hdb)
  refine PyProof.Rows.callWith_type1 (run_seqA ha I x r hp fun ds S1 q1 vs us s1 H1 m1 I1 rv e1 x1 w1 r1 hp1 => ?_) he hpl
  obtain ⟨d', q2⟩ := lift_ok hp1
  have e0 : lCallB g t ρ S = .ok d' S1 := by unfold lCallB; rw [q1, bind_ok, q2]; rfl
  rw [e0]
  exact thn (hc.run pins s1 σ H1 m1 S1 vs ds d' us I1 x1 w1 rv q2) fun _ _ z => (vpr_of z).left e1
end
end MP

namespace MP
open PySem PySem.Spec PyProof.Rows L2

/-! ### room, and no repr under way (L2.Room and L2.FnOk, with the guards) -/
structure Room (k : Nat) (A : Around) : Prop where
  r : L2.Room k A
  g : A.guards = some []
theorem Room.mono {j k : Nat} {A : Around} (r : MP.Room k A) (h : j ≤ k) : MP.Room j A := ⟨r.r.mono h, r.g⟩
theorem Room.deeper {k : Nat} {A : Around} (r : MP.Room (k + 1) A) (env : Env) : MP.Room k (A.deeper env) := ⟨r.r.deeper env, r.g⟩
theorem Room.in1 {k : Nat} {A : Around} (r : MP.Room (k + 1) A) : MP.Room k A.in1 := ⟨r.r.in1, r.g⟩
theorem Room.make {k : Nat} {A : Around} (r : MP.Room (k + 1) A) (C : Addr) (us : List Value) (kw : List (Str × Value)) : MP.Room k (A.under (.builtin "type.__call__" ⟨.ref C :: us, kw⟩)) :=
  ⟨r.r.make C us kw, by
    have h := r.g
    first
      | exact h
      | (simp [Around.under, Code.guards, pushGuards, Code.isGuard, guardIds, h])⟩
theorem Room.depth {k : Nat} {A : Around} (r : MP.Room k A) : A.depth < recursionLimit := r.r.depth
theorem Room.units {k : Nat} {A : Around} (r : MP.Room k A) : A.units + 64 < cLine := r.r.units
theorem Room.units0 {k : Nat} {A : Around} (r : MP.Room k A) : A.units < cLine := r.r.units0
theorem Room.hd {k : Nat} {A : Around} (r : MP.Room k A) : A.handled = none := r.r.hd
structure FnOk (P : Program) (w : World) (K : PySem.W.Frag) (mg : Str → Option Value) (base : Heap) (CX : CXT) (k : Nat) (f : Addr) (fd : FuncData) (ps : List Str) (sp : Sp) : Prop where
  len : ∀ vs H Q E, sp vs H Q E → vs.length = ps.length
  run : ∀ (A : Around) (outer : List Env) (s : Shared) (H : Hp) (args : Args) (us : List Value) (vs : List V) (Q : VK) (E : XK), MP.Room k A → Env0 P w K mg base A outer s H → BindsTo s fd args (ps.zip us) → Vals vs us → sp vs H Q E →
    codeAny (model P w) A (.call (.ref f) args) (CR CX outer P w H s Q E) s
theorem FnOk.imp {P : Program} {w : World} {K : PySem.W.Frag} {mg : Str → Option Value} {base : Heap} {CX : CXT} {k : Nat} {f : Addr} {fd : FuncData} {ps : List Str} {sp sp' : Sp} (F : MP.FnOk P w K mg base CX k f fd ps sp)
    (h : ∀ vs H Q E, sp' vs H Q E → sp vs H Q E) : MP.FnOk P w K mg base CX k f fd ps sp' :=
  ⟨fun vs H Q E q => F.len vs H Q E (h _ _ _ _ q), fun A outer s H args us vs Q E hr he hb hv hs => F.run A outer s H args us vs Q E hr he hb hv (h _ _ _ _ hs)⟩

/-! ### what a def promises, by the store -/
abbrev F := List D → Sto → R D
def spL (K : PySem.W.Frag) (f : F) (n : Nat) : Sp := fun vs H Q E => vs.length = n ∧ ∃ m S ds, SR K m H S ∧ VRs K m H vs ds ∧ f ds S ≠ .bad ∧ (∀ d S', f ds S = .ok d S' → ∀ v H', QV K m H S' d v H' → Q v H') ∧
  ∀ C fs S', f ds S = .exc C fs S' → ∀ cls d H', WL K m H C fs S' cls d H' → E cls d H'
abbrev FnL (P : Program) (w : World) (K : PySem.W.Frag) (mg : Str → Option Value) (base : Heap) (k : Nat) (f : Addr) (fd : FuncData) (ps : List Str) (g : F) : Prop := FnOk P w K mg base (L2.CX P w) k f fd ps (spL K g ps.length)

section
variable {X : Cx} {a b c e o : Expr} {la lb lc l lo : LE} {pos p apos cpos : Pos} {es rest : List Expr} {t : LA} {tc : LT} {x mn : Str} {k : Nat} {f C : Addr} {fd : FuncData} {ps : List Str} {g : F}
theorem run_fnL {pins : List (Addr × Obj)} {σ : L2.St} {H : Hp} {s : Shared} {us ds0 : List Value} {vs dvs : List V} {m : List Addr} {S : Sto} {ds dd : List D} (Fn : FnL X.prog X.w X.K X.mg X.base k f fd ps g) (hr : Room k X.A) (hb : Binds X.K fd ps ds0) (hd : Vals dvs ds0) (hdd : VRs X.K m H dvs dd)
    (I : Inv X pins σ H s) (x : SR X.K m H S) (r : Vals vs us) (rd : VRs X.K m H vs ds) (hl : (vs ++ dvs).length = ps.length) (hp : Hope X σ m H (g (ds ++ dd) S)) :
    wpAny (model X.prog X.w) X.A (call (.ref f) us) (VPr X pins σ m H (g (ds ++ dd) S)) X.xe s := by
  have r2 : Vals (vs ++ dvs) (us ++ ds0) := r.append hd
  have hl2 : (us ++ ds0).length = ps.length := by rw [← r2.length]; exact hl
  have rd2 : VRs X.K m H (vs ++ dvs) (ds ++ dd) := rd.append hdd
  have hsp : spL X.K g ps.length (vs ++ dvs) H (fun v H' => ∃ d S', g (ds ++ dd) S = .ok d S' ∧ QV X.K m H S' d v H') (fun cls d H' => ∃ C fs S', g (ds ++ dd) S = .exc C fs S' ∧ WL X.K m H C fs S' cls d H') :=
    ⟨hl, m, S, ds ++ dd, x, rd2, hp.1, fun d S' q v H' z => ⟨d, S', q, z⟩, fun C fs S' q cls d H' z => ⟨C, fs, S', q, z⟩⟩
  refine wpAny_call (codeAny_mono (Fn.run X.A X.stack s H ⟨us, []⟩ (us ++ ds0) (vs ++ dvs) _ _ hr I.env0 (hb s us I.kIn hl2) r2 hsp) fun r s' hq => ?_)
  cases r with
  | error e =>
    cases q : g (ds ++ dd) S with
    | bad => rw [q] at hp; exact absurd rfl hp.1
    | ok d S' =>
      obtain ⟨_, _, _, _, _, _, _, _, _, _, _, _, C, fs, S', q', _⟩ := hq
      rw [q] at q'; cases q'
    | exc C fs S' =>
      refine hp.2 C fs S' q e s' (XE.of_call I (fun cls d H' w => ?_) hq)
      obtain ⟨C', fs', S'', q', w⟩ := w
      rw [q] at q'; cases q'
      exact ⟨rfl, w⟩
  | ok fl =>
    cases fl with
    | ret u =>
      obtain ⟨v, H', I', rv, d, S', q, m', e, x', w⟩ := I.after hq
      exact ⟨d, S', q, v, H', m', I', rv, e, x', w⟩
    | next => exact False.elim hq
    | brk => exact False.elim hq
    | cont => exact False.elim hq
/-- what a call's values by default are -/
structure Dfl (K : PySem.W.Frag) (dvs : List V) (ds0 : List Value) (dd : List D) : Prop where
  vals : Vals dvs ds0
  rel : ∀ m H, VRs K m H dvs dd
theorem dfl_nil {K : PySem.W.Frag} : Dfl K [] [] [] := ⟨.nil, fun _ _ => .nil⟩
def lCall (n : Nat) (g : F) (dd : List D) (t : LA) : LE := fun ρ S => (t ρ S).bind fun ds S1 => if ds.length + dd.length = n then g (ds ++ dd) S1 else .bad
theorem pel_call {ds0 : List Value} {dvs : List V} {dd : List D} (Fn : FnL X.prog X.w X.K X.mg X.base k f fd ps g) (hr : Room k X.A) (hg : Gl X x) (hm : X.mg x = some (.ref f)) (hk : PySem.W.keepIn X.K (.ref f) = true) (hb : Binds X.K fd ps ds0) (hd : Dfl X.K dvs ds0 dd)
    (ha : PAL X (e :: es) t) (hdb : (x == ("__debug__" : Str)) = false := by decide) (he : starEach (e :: es) X.env = (false, eval e X.env) :: starEach es X.env := by rfl) (hpl : (backTo pos (starEach es X.env)).any (·.1) = false := by rfl) :
    PEL X (.Call (.Name x p) (e :: es) [] pos) (lCall ps.length g dd t) := by
  refine ⟨fun pins s σ H m ρ S I x r hp => ?_⟩
  refine wpAny_Call_Name_kw (ld_glob I hg hm ?_ hdb)
  refine PySem.W.callWith_K (h₀ := X.base) I.ok.mod.kin hk (run_seqA ha I x r hp fun ds S1 q1 vs us s1 H1 m1 I1 rv e1 x1 w1 r1 hp1 => ⟨I1.kIn, ?_⟩) he hpl
  have hl := hope_if hp1
  rw [if_pos hl] at hp1
  have e0 : lCall ps.length g dd t ρ S = g (ds ++ dd) S1 := by unfold lCall; rw [q1, bind_ok, if_pos hl]
  rw [e0]
  exact thn (run_fnL Fn hr hb hd.vals (hd.rel _ _) I1 x1 rv w1 (by rw [List.length_append, w1.length, (hd.rel m1 H1).length]; exact hl) hp1) fun _ _ z => z.left e1
/-- o.m(..): C the object's class -/
def recv (C : Addr) (mn : Str) (S : Sto) (d : D) : Bool := match vw S d with
  | .obj C' fs => decide (C' = C) && (fs.lookup mn).isNone
  | _ => false
def lMeth (C : Addr) (mn : Str) (n : Nat) (g : F) (dd : List D) (lo : LE) (t : LA) : LE := fun ρ S => (lo ρ S).bind fun d S0 => if recv C mn S0 d = true then (t ρ S0).bind fun ds S1 => if (ds.length + dd.length) + 1 = n then g (d :: (ds ++ dd)) S1 else .bad else .bad
theorem recv_at {K : PySem.W.Frag} {m : List Addr} {H : Hp} {S : Sto} {v : V} {d : D} (x : SR K m H S) (r : VR K m H v d) (h : recv C mn S d = true) : ∃ a dx fs, v = .ref a ∧ H a = some (.ins C dx fs) ∧ fs.lookup mn = none := by
  unfold recv at h
  split at h
  · rename_i C' gs q
    rw [Bool.and_eq_true] at h
    have h1 := of_decide_eq_true h.1
    subst h1
    obtain ⟨a, dx, fs, rfl, h2, r2⟩ := vw_obj x r q
    exact ⟨a, dx, fs, rfl, h2, r2.lookN (Option.isNone_iff_eq_none.mp h.2)⟩
  · cases h
theorem pel_meth {pl : Sem Bool} {ds0 : List Value} {dvs : List V} {dd : List D} (c : Cls X.K C) (hm : Meth X.K C mn f) (Fn : FnL X.prog X.w X.K X.mg X.base k f fd ps g) (hr : Room k X.A) (hb : Binds X.K fd ps ds0) (hd : Dfl X.K dvs ds0 dd) (he : PEL X o lo) (ha : PAL X (e :: es) t)
    (hst : starEach (e :: es) X.env = (false, eval e X.env) :: starEach es X.env := by rfl) (hpl : (backTo pos (starEach es X.env)).any (·.1) = false := by rfl)
    (ht : eval (.Call (.Attribute o mn apos) (e :: es) [] pos) X.env = (do
      let ov ← eval o X.env
      standAt apos.atName
      let (f, first) ← holding [ov] (getMethod ov mn pl)
      callWith pos f first (backTo pos (starEach (e :: es) X.env)) (backToKw pos (keywordEach [] X.env))) := by rfl) :
    PEL X (.Call (.Attribute o mn apos) (e :: es) [] pos) (lMeth C mn ps.length g dd lo t) := by
  refine ⟨fun pins s σ H m ρ S I x r hp => ?_⟩
  refine PySem.W.methodCall_KW (pl := pl) (run_seq he I x r hp fun d S0 q0 v u s0 H0 m0 I0 rv0 e0 x0 w0 r0 hp0 => ?_) ht
  have hc := hope_if hp0
  rw [if_pos hc] at hp0
  obtain ⟨a, dx, fs, rfl, ea, hl⟩ := recv_at x0 w0 hc
  obtain rfl : u = Value.ref a := rv0
  refine getmeth_ok I0 ea c hm hl ?_
  refine PySem.W.callWith_K (first := [.ref a]) (h₀ := X.base) I.ok.mod.kin hm.kp (run_seqA ha I0 x0 r0 hp0 fun ds S1 q1 vs us s1 H1 m1 I1 rv1 e1 x1 w1 r1 hp1 => ⟨I1.kIn, ?_⟩) hst hpl
  have hn := hope_if hp1
  rw [if_pos hn] at hp1
  have ez : lMeth C mn ps.length g dd lo t ρ S = g (d :: (ds ++ dd)) S1 := by unfold lMeth; rw [q0, bind_ok, if_pos hc, q1, bind_ok, if_pos hn]
  rw [ez]
  exact thn (run_fnL (us := .ref a :: us) (vs := .ref a :: vs) (ds := d :: ds) Fn hr hb hd.vals (hd.rel _ _) I1 x1 (.cons rfl rv1) (.cons (w0.ext e1 x0.muts) w1)
    (by rw [List.cons_append, List.length_cons, List.length_append, w1.length, (hd.rel m1 H1).length]; exact hn) hp1) fun _ _ z => z.left (e0.trans e1)
theorem pel_meth0 {pl : Sem Bool} {ds0 : List Value} {dvs : List V} {dd : List D} (c : Cls X.K C) (hm : Meth X.K C mn f) (Fn : FnL X.prog X.w X.K X.mg X.base k f fd ps g) (hr : Room k X.A) (hb : Binds X.K fd ps ds0) (hd : Dfl X.K dvs ds0 dd) (he : PEL X o lo)
    (ht : eval (.Call (.Attribute o mn apos) [] [] pos) X.env = (do
      let ov ← eval o X.env
      standAt apos.atName
      let (f, first) ← holding [ov] (getMethod ov mn pl)
      callWith pos f first (backTo pos (starEach [] X.env)) (backToKw pos (keywordEach [] X.env))) := by rfl) :
    PEL X (.Call (.Attribute o mn apos) [] [] pos) (lMeth C mn ps.length g dd lo aNil) := by
  refine ⟨fun pins s σ H m ρ S I x r hp => ?_⟩
  refine PySem.W.methodCall_KW (pl := pl) (run_seq he I x r hp fun d S0 q0 v u s0 H0 m0 I0 rv0 e0 x0 w0 r0 hp0 => ?_) ht
  have hc := hope_if hp0
  rw [if_pos hc] at hp0
  obtain ⟨a, dx, fs, rfl, ea, hl⟩ := recv_at x0 w0 hc
  obtain rfl : u = Value.ref a := rv0
  refine getmeth_ok I0 ea c hm hl ?_
  have hp1 : Hope X σ m0 H0 (if (([] : List D).length + dd.length) + 1 = ps.length then g (d :: ([] ++ dd)) S0 else .bad) := hp0
  have hn := hope_if hp1
  rw [if_pos hn] at hp1
  have ez : lMeth C mn ps.length g dd lo aNil ρ S = g (d :: ([] ++ dd)) S0 := by
    unfold lMeth; rw [q0, bind_ok, if_pos hc]
    show (if (([] : List D).length + dd.length) + 1 = ps.length then g (d :: ([] ++ dd)) S0 else .bad) = _
    rw [if_pos hn]
  rw [ez]
  exact PySem.W.callWith_K0 (first := [.ref a]) I0.kIn hm.kp (thn (run_fnL (us := [.ref a]) (vs := [.ref a]) (ds := [d]) Fn hr hb hd.vals (hd.rel _ _) I0 x0 (.cons rfl .nil) (.cons w0 .nil)
    (by rw [List.length_append, (hd.rel m0 H0).length]; simp at hn ⊢; omega) hp1) fun _ _ z => z.left e0)
end

/-! ### what nobody can reach any more is let go -/
mutual
def below (n : Nat) : D → Bool
  | .ref i => decide (i < n)
  | .tup xs => belows n xs
  | .ftup xs => belows n xs
  | .lst xs => belows n xs
  | .dct _ kvs => belowd n kvs
  | .dcn _ kvs => belowd n kvs
  | .fdct kvs => belowd n kvs
  | .obj _ fs => belowf n fs
  | .exn _ fs => belowf n fs
  | _ => true
def belows (n : Nat) : List D → Bool
  | [] => true
  | x :: xs => below n x && belows n xs
def belowd (n : Nat) : List (D × D) → Bool
  | [] => true
  | (_, x) :: xs => below n x && belowd n xs
def belowf (n : Nat) : List (Str × D) → Bool
  | [] => true
  | (_, x) :: xs => below n x && belowf n xs
end
mutual
theorem below_nD (n : Nat) : ∀ k : NestedKey, below n (nD k) = true
  | .none => rfl
  | .num _ => rfl
  | .text _ => rfl
  | .tup ks => by simp only [nD, below]; exact below_nDs n ks
theorem below_nDs (n : Nat) : ∀ ks : List NestedKey, belows n (nDs ks) = true
  | [] => rfl
  | k :: ks => by simp only [nDs, belows, below_nD n k, below_nDs n ks, Bool.and_self]
end
def belowg (n : Nat) : Option Gh → Bool
  | none => true
  | some (_, _, _, ρ) => ρ.all fun o => match o with
    | some d => below n d
    | none => true
def belowo (n : Nat) : O → Bool
  | .lst xs => belows n xs
  | .dct _ kvs => belowd n kvs
  | .dcn _ kvs => belowd n kvs
  | .ins _ fs => belowf n fs
  | .tab _ _ g => belowg n g
section
variable {K : PySem.W.Frag} {m : List Addr} {H : Hp}
mutual
theorem VR.bel {v : V} {d : D} : VR K m H v d → below m.length d = true
  | .non => rfl
  | .bl _ => rfl
  | .int _ => rfl
  | .str _ => rfl
  | .tup _ r => r.bel
  | .ftup _ _ r => r.bel
  | .lst _ _ r => r.bel
  | .lstK _ _ _ _ _ _ r => r.bel
  | .dct _ _ r => r.bel
  | .dctT _ _ r => r.bel
  | .dcn _ _ r => r.bel
  | .fdct _ r => r.bel
  | .obj _ _ r => r.bel
  | .exn0 _ _ => rfl
  | .exnD _ _ _ _ r => r.bel
  | .fn _ => rfl
  | .ref h => by
    simp only [MP.below]
    exact decide_eq_true (List.getElem?_eq_some_iff.mp h).1
theorem VRs.bel {v : List V} {d : List D} : VRs K m H v d → belows m.length d = true
  | .nil => rfl
  | .cons h r => by simp only [MP.belows, h.bel, r.bel, Bool.and_self]
theorem VFs.bel {v : List (Str × V)} {d : List (Str × D)} : VFs K m H v d → belowf m.length d = true
  | .nil => rfl
  | .cons h r => by simp only [MP.belowf, h.bel, r.bel, Bool.and_self]
theorem VDk.bel {v : List (Key × V)} {d : List (D × D)} : VDk K m H v d → belowd m.length d = true
  | .nil => rfl
  | .cons h r => by simp only [MP.belowd, h.bel, r.bel, Bool.and_self]
theorem VDt.bel {v : List (List Key × V)} {d : List (D × D)} : VDt K m H v d → belowd m.length d = true
  | .nil => rfl
  | .cons h r => by simp only [MP.belowd, h.bel, r.bel, Bool.and_self]
theorem VDn.bel {v : List (NestedKey × Addr × V)} {d : List (D × D)} : VDn K m H v d → belowd m.length d = true
  | .nil => rfl
  | .cons _ _ h r => by simp only [MP.belowd, h.bel, r.bel, Bool.and_self]
end
variable {l : List Addr}
theorem nin_left {a : Addr} (h : a ∉ m ++ l) : a ∉ m := fun z => h (List.mem_append_left _ z)
mutual
theorem VR.down {v : V} {d : D} : VR K (m ++ l) H v d → MP.below m.length d = true → VR K m H v d
  | .non, _ => .non
  | .bl b, _ => .bl b
  | .int i, _ => .int i
  | .str s, _ => .str s
  | .tup h r, q => .tup h (r.down (by simpa only [MP.below] using q))
  | .ftup hd h r, q => .ftup hd h (r.down (by simpa only [MP.below] using q))
  | .lst n h r, q => .lst (nin_left n) h (r.down (by simpa only [MP.below] using q))
  | .lstK hk h1 h2 h3 h4 h5 r, q => .lstK hk h1 h2 h3 h4 h5 (r.down (by simpa only [MP.below] using q))
  | .dct n h r, q => .dct (nin_left n) h (r.down (by simpa only [MP.below] using q))
  | .dctT n h r, q => .dctT (nin_left n) h (r.down (by simpa only [MP.below] using q))
  | .dcn n h r, q => .dcn (nin_left n) h (r.down (by simpa only [MP.below] using q))
  | .fdct h r, q => .fdct h (r.down (by simpa only [MP.below] using q))
  | .obj n h r, q => .obj (nin_left n) h (r.down (by simpa only [MP.below] using q))
  | .exn0 n h, q => .exn0 (nin_left n) h
  | .exnD n nd h hd r, q => .exnD (nin_left n) (nin_left nd) h hd (r.down (by simpa only [MP.below] using q))
  | .fn h, q => .fn h
  | .ref h, q => .ref (by
    simp only [MP.below] at q
    rw [List.getElem?_append_left (of_decide_eq_true q)] at h
    exact h)
theorem VRs.down {v : List V} {d : List D} : VRs K (m ++ l) H v d → MP.belows m.length d = true → VRs K m H v d
  | .nil, _ => .nil
  | .cons h r, q => by
    simp only [MP.belows, Bool.and_eq_true] at q
    exact .cons (h.down q.1) (r.down q.2)
theorem VFs.down {v : List (Str × V)} {d : List (Str × D)} : VFs K (m ++ l) H v d → MP.belowf m.length d = true → VFs K m H v d
  | .nil, _ => .nil
  | .cons h r, q => by
    simp only [MP.belowf, Bool.and_eq_true] at q
    exact .cons (h.down q.1) (r.down q.2)
theorem VDk.down {v : List (Key × V)} {d : List (D × D)} : VDk K (m ++ l) H v d → MP.belowd m.length d = true → VDk K m H v d
  | .nil, _ => .nil
  | .cons h r, q => by
    simp only [MP.belowd, Bool.and_eq_true] at q
    exact .cons (h.down q.1) (r.down q.2)
theorem VDt.down {v : List (List Key × V)} {d : List (D × D)} : VDt K (m ++ l) H v d → MP.belowd m.length d = true → VDt K m H v d
  | .nil, _ => .nil
  | .cons h r, q => by
    simp only [MP.belowd, Bool.and_eq_true] at q
    exact .cons (h.down q.1) (r.down q.2)
theorem VDn.down {v : List (NestedKey × Addr × V)} {d : List (D × D)} : VDn K (m ++ l) H v d → MP.belowd m.length d = true → VDn K m H v d
  | .nil, _ => .nil
  | .cons hk hd h r, q => by
    simp only [MP.belowd, Bool.and_eq_true] at q
    exact .cons (hk.down (below_nD _ _)) hd (h.down q.1) (r.down q.2)
end
/-- a place of the store from n on, as what stands there -/
def fz0 (S : Sto) (n : Nat) (d : D) : D := match d with
  | .ref i => if i < n then .ref i else vw S (.ref i)
  | d => d
def fz (S : Sto) (n : Nat) (d : D) : D := match fz0 S n d with
  | .obj C fs => .obj C (fs.map fun q => (q.1, fz0 S n q.2))
  | d => d
theorem nodup_get {xs : List Addr} (h : xs.Nodup) {i j : Nat} {a : Addr} (h1 : xs[i]? = some a) (h2 : xs[j]? = some a) : i = j := by
  obtain ⟨p1, e1⟩ := List.getElem?_eq_some_iff.mp h1
  obtain ⟨p2, e2⟩ := List.getElem?_eq_some_iff.mp h2
  exact (List.getElem_inj h).mp (e1.trans e2.symm)
theorem VR.fz0 {S : Sto} {v : V} {d : D} (x : SR K (m ++ l) H S) (r : VR K (m ++ l) H v d) : ∃ v', v' = v ∧ (VR K (m ++ l) H v (MP.fz0 S m.length d) ∨ (∃ a, v = .ref a ∧ a ∉ m ∧ ∃ ob, OR K (m ++ l) H a ob ∧ MP.fz0 S m.length d = (match ob with
  | .lst xs => .lst xs
  | .dct t kvs => .dct t kvs
  | .dcn w kvs => .dcn w kvs
  | .ins C fs => .obj C fs
  | .tab _ _ _ => .fn none))) := by
  refine ⟨v, rfl, ?_⟩
  cases r with
  | @ref i a h =>
    unfold MP.fz0
    by_cases hi : i < m.length
    · dsimp only
      rw [if_pos hi]
      exact .inl (.ref h)
    · dsimp only
      rw [if_neg hi]
      cases q : S[i]? with
      | none =>
        have := (List.getElem?_eq_some_iff.mp h).1
        rw [x.len] at this
        rw [List.getElem?_eq_none_iff] at q
        omega
      | some ob =>
        refine .inr ⟨a, rfl, fun z => ?_, ob, x.at_ i a ob h q, by dsimp only [vw]; rw [q]; cases ob <;> rfl⟩
        obtain ⟨j, hj⟩ := List.mem_iff_getElem?.mp z
        have hj' := (List.getElem?_eq_some_iff.mp hj).1
        have h2 : (m ++ l)[j]? = some a := by rw [List.getElem?_append_left hj']; exact hj
        have := nodup_get x.nd h2 h
        omega
  | non => exact .inl .non
  | bl b => exact .inl (.bl b)
  | int b => exact .inl (.int b)
  | str b => exact .inl (.str b)
  | tup h r => exact .inl (.tup h r)
  | ftup hd h r => exact .inl (.ftup hd h r)
  | lst n h r => exact .inl (.lst n h r)
  | lstK hk h1 h2 h3 h4 h5 r => exact .inl (.lstK hk h1 h2 h3 h4 h5 r)
  | dct n h r => exact .inl (.dct n h r)
  | dctT n h r => exact .inl (.dctT n h r)
  | dcn n h r => exact .inl (.dcn n h r)
  | fdct h r => exact .inl (.fdct h r)
  | fn h => exact .inl (.fn h)
  | obj n h r => exact .inl (.obj n h r)
  | exn0 n h => exact .inl (.exn0 n h)
  | exnD n nd h hd r => exact .inl (.exnD n nd h hd r)
theorem ER.belg {σ : L2.St} {ρ : Ev} (r : ER K m H σ ρ) : (ρ.all fun o => match o with
    | some d => below m.length d
    | none => true) = true := by
  rw [List.all_eq_true]
  intro o ho
  obtain ⟨i, hi⟩ := List.mem_iff_getElem?.mp ho
  cases o with
  | none => rfl
  | some d =>
    obtain ⟨v, _, w⟩ := r.at_ i d hi
    exact w.bel
theorem ER.down {σ : L2.St} {ρ : Ev} (r : ER K (m ++ l) H σ ρ) (b : (ρ.all fun o => match o with
    | some d => below m.length d
    | none => true) = true) : ER K m H σ ρ := ⟨fun i d h => by
  obtain ⟨v, h1, w⟩ := r.at_ i d h
  exact ⟨v, h1, w.down (List.all_eq_true.mp b _ (List.mem_iff_getElem?.mpr ⟨i, h⟩))⟩, r.len⟩
theorem TabM.down {P : Addr} {q : Str} (t : TabM (m ++ l) H P q) : TabM m H P q := by
  obtain ⟨ps, h1, h2, h3⟩ := t
  refine ⟨ps, h1, h2, fun pos cv hc => ?_⟩
  obtain ⟨c, e1, e2, e3⟩ := h3 pos cv hc
  exact ⟨c, e1, nin_left e2, e3⟩
end
end MP

namespace MP
open PySem PySem.Spec PyProof.Rows L2

section
variable {K : PySem.W.Frag} {m l : List Addr} {H H' : Hp} {S S' : Sto}
theorem OR.bel {a : Addr} {o : O} (h : OR K m H a o) : belowo m.length o = true := by
  cases h with
  | lst _ r => exact r.bel
  | dct _ r => exact r.bel
  | dctT _ r => exact r.bel
  | dcn _ r => exact r.bel
  | ins _ r => exact r.bel
  | @tab P q g eP h r =>
    cases g with
    | none => rfl
    | some g =>
      obtain ⟨f, c, σ, ρ⟩ := g
      exact (r f c σ ρ rfl).2.2.belg
theorem OR.down {a : Addr} {o : O} (h : OR K (m ++ l) H a o) (b : belowo m.length o = true) : OR K m H a o := by
  cases h with
  | lst h r => exact .lst h (r.down b)
  | dct h r => exact .dct h (r.down b)
  | dctT h r => exact .dctT h (r.down b)
  | dcn h r => exact .dcn h (r.down b)
  | ins h r => exact .ins h (r.down b)
  | tab eP h r =>
    refine .tab eP h.down fun f c σ ρ z => ?_
    subst z
    obtain ⟨r1, r2, r3⟩ := r f c σ ρ rfl
    exact ⟨nin_left r1, r2, r3.down b⟩
def snap : O → D
  | .lst xs => .lst xs
  | .dct t kvs => .dct t kvs
  | .dcn w kvs => .dcn w kvs
  | .ins C fs => .obj C fs
  | .tab _ _ _ => .fn none
theorem VR.fz0_down {v : V} {d : D} (x : SR K (m ++ l) H S) (r : VR K (m ++ l) H v d) (b : MP.below m.length (MP.fz0 S m.length d) = true) : VR K m H v (MP.fz0 S m.length d) := by
  obtain ⟨_, rfl, q⟩ := VR.fz0 x r
  rcases q with q | ⟨a, rfl, na, ob, q, e⟩
  · exact q.down b
  · rw [e] at b ⊢
    cases q with
    | lst h r => exact .lst na (.inl h) (r.down (by simpa only [MP.below] using b))
    | dct h r => exact .dct na h (r.down (by simpa only [MP.below] using b))
    | dctT h r => exact .dctT na h (r.down (by simpa only [MP.below] using b))
    | dcn h r => exact .dcn na h (r.down (by simpa only [MP.below] using b))
    | ins h r => exact .obj na h (r.down (by simpa only [MP.below] using b))
    | tab _ h r => exact .fn fun _ z => nomatch z
theorem VFs.fz0_down (x : SR K (m ++ l) H S) : ∀ {vs : List (Str × V)} {ds : List (Str × D)}, VFs K (m ++ l) H vs ds → belowf m.length (ds.map fun q => (q.1, MP.fz0 S m.length q.2)) = true → VFs K m H vs (ds.map fun q => (q.1, MP.fz0 S m.length q.2))
  | _, _, .nil, _ => .nil
  | _, _, .cons h r, q => by
    simp only [List.map_cons, belowf, Bool.and_eq_true] at q
    exact .cons (h.fz0_down x q.1) (VFs.fz0_down x r q.2)
theorem VR.fz_down {v : V} {d : D} (x : SR K (m ++ l) H S) (r : VR K (m ++ l) H v d) (b : MP.below m.length (fz S m.length d) = true) : VR K m H v (fz S m.length d) := by
  unfold fz at b ⊢
  split at b
  · rename_i C fs e
    obtain ⟨_, rfl, q⟩ := VR.fz0 x r
    simp only [MP.below] at b
    rcases q with q | ⟨a, rfl, na, ob, q, e2⟩
    · rw [e] at q
      cases q with
      | obj n h r => exact .obj (nin_left n) h (VFs.fz0_down x r b)
    · rw [e2] at e
      cases q with
      | ins h r => cases e; exact .obj na h (VFs.fz0_down x r b)
      | lst _ _ => cases e
      | dct _ _ => cases e
      | dctT _ _ => cases e
      | dcn _ _ => cases e
      | tab _ _ _ => cases e
  · exact r.fz0_down x b
/-- a weaker result: less is told, or what nobody reaches any more is let go -/
inductive RLe (S : Sto) : R D → R D → Prop where
  | bad (r : R D) : RLe S .bad r
  | refl (r : R D) : RLe S r r
  | gc (d d' : D) (S' : Sto) (h : S'.take S.length = S) (e : d' = fz S' S.length d) (b : below S.length d' = true) : RLe S (.ok d' S) (.ok d S')
  | gcx (C : Addr) (fs : List (Str × D)) (S' : Sto) (h : S'.take S.length = S) (b : belowf S.length fs = true) : RLe S (.exc C fs S) (.exc C fs S')
theorem sr_gc {m' : List Addr} (x : SR K m H S) (e : Ext m H m' H') (x' : SR K m' H' S') (h : S'.take S.length = S) : SR K m H' S ∧ Ext m H m H' := by
  obtain ⟨l, el⟩ := e.pre
  subst el
  refine ⟨⟨x.nd, x.len, fun i a o h1 h2 => ?_⟩, ⟨[], by simp⟩, fun a h => .inl h, e.keep⟩
  have hi := (List.getElem?_eq_some_iff.mp h1).1
  have hs := (List.getElem?_eq_some_iff.mp h2).1
  refine (x'.at_ i a o (by rw [List.getElem?_append_left hi]; exact h1) ?_).down (x.at_ i a o h1 h2).bel
  rw [← h, List.getElem?_take] at h2
  rw [if_pos hs] at h2
  exact h2
theorem qv_gc {d : D} {v : V} (x : SR K m H S) (q : QV K m H S' d v H') (h : S'.take S.length = S) (b : below S.length (fz S' S.length d) = true) : QV K m H S (fz S' S.length d) v H' := by
  obtain ⟨m', e, x', w⟩ := q
  obtain ⟨y1, y2⟩ := sr_gc x e x' h
  obtain ⟨l, el⟩ := e.pre
  subst el
  rw [← x.len] at b ⊢
  exact ⟨m, y2, y1, w.fz_down x' b⟩
theorem wl_gc {C : Addr} {fs : List (Str × D)} {cls : Value} {dd : Option Addr} (x : SR K m H S) (q : WL K m H C fs S' cls dd H') (h : S'.take S.length = S) (b : belowf S.length fs = true) : WL K m H C fs S cls dd H' := by
  obtain ⟨h1, m', h2, e, x'⟩ := q
  obtain ⟨y1, y2⟩ := sr_gc x e x' h
  obtain ⟨l, el⟩ := e.pre
  subst el
  rw [← x.len] at b
  refine ⟨h1, m, ?_, y2, y1⟩
  rcases h2 with ⟨a, vs, h2, h3, w⟩ | h2
  · exact .inl ⟨a, vs, h2, h3, w.down b⟩
  · exact .inr h2
end
theorem FnL.le {P : Program} {w : World} {K : PySem.W.Frag} {mg : Str → Option Value} {base : Heap} {k : Nat} {f : Addr} {fd : FuncData} {ps : List Str} {g g' : F} (h : FnL P w K mg base k f fd ps g) (hle : ∀ ds S, ds.length = ps.length → RLe S (g' ds S) (g ds S)) : FnL P w K mg base k f fd ps g' := by
  refine FnOk.imp h fun vs H Q E ⟨hl, m, S, ds, x, r, nb, q1, q2⟩ => ⟨hl, m, S, ds, x, r, ?_⟩
  have z := hle ds S (by rw [← r.length]; exact hl)
  generalize hA : g' ds S = A at z nb q1 q2
  generalize hB : g ds S = B at z
  cases z with
  | bad r => exact absurd rfl nb
  | refl r => exact ⟨nb, q1, q2⟩
  | gc d d' S' h e b =>
    subst e
    refine ⟨fun z => (nomatch z), fun d1 S1 e v H' qv => ?_, fun C fs S1 e => (nomatch e)⟩
    cases e
    exact q1 _ _ rfl v H' (qv_gc x qv h b)
  | gcx C fs S' h b =>
    refine ⟨fun z => (nomatch z), fun d1 S1 e => (nomatch e), fun C1 fs1 S1 e cls dd H' wl => ?_⟩
    cases e
    exact q2 _ _ _ rfl cls dd H' (wl_gc x wl h b)

/-! ### a new object -/
section
variable {X : Cx} {e : Expr} {pos p : Pos} {es : List Expr} {t : LA} {x : Str} {k : Nat} {f C : Addr} {fd : FuncData} {ps : List Str} {g : F}
/-- what comes of C(..) by its __init__ -/
def mkF (C : Addr) (g : F) : F := fun ds S => (g (.ref S.length :: ds) (S ++ [.ins C []])).bind fun d S1 => match d with
  | .non => .ok (.ref S.length) S1
  | _ => .bad
theorem run_makeL {pins : List (Addr × Obj)} {σ : L2.St} {H : Hp} {s : Shared} {us ds0 : List Value} {vs dvs : List V} {m : List Addr} {S : Sto} {ds dd : List D} {gn : F} (M : Mk X.K C f) (Fn : FnL X.prog X.w X.K X.mg X.base k f fd ps g) (hr : Room (k + 1) X.A) (hb : Binds X.K fd ps ds0) (hd : Vals dvs ds0) (hdd : VRs X.K m H dvs dd)
    (I : Inv X pins σ H s) (x : SR X.K m H S) (r : Vals vs us) (rd : VRs X.K m H vs ds) (hl : (vs ++ dvs).length + 1 = ps.length) (hg : RLe S (gn (ds ++ dd) S) (mkF C g (ds ++ dd) S)) (hp : Hope X σ m H (gn (ds ++ dd) S)) :
    wpAny (model X.prog X.w) X.A (call (.ref C) us) (VPr X pins σ m H (gn (ds ++ dd) S)) X.xe s := by
  -- the instance stands at pa, its dict at pd
  obtain ⟨pd, hpd⟩ : ∃ a, a = s.heap.objs.size := ⟨_, rfl⟩
  obtain ⟨pa, hpa⟩ : ∃ a, a = s.heap.objs.size + 1 := ⟨_, rfl⟩
  have n1 : H pa = none := hpa ▸ I.hok.fresh (Nat.le_succ _)
  have n2 : H pd = none := hpd ▸ I.hok.fresh (Nat.le_refl _)
  have ne : pa ≠ pd := by omega
  have I2 := Inv.made (C := C) I
  rw [← hpa, ← hpd] at I2
  have r2 : Vals (V.ref pa :: (vs ++ dvs)) (Value.ref pa :: (us ++ ds0)) := .cons rfl (r.append hd)
  have n1' : (upd H pd (.own pa)) pa = none := by rw [upd_ne ne]; exact n1
  have x1 : SR X.K m (upd H pd (.own pa)) S := x.fresh n2
  have E1 : Ext m H m (upd H pd (.own pa)) := Ext.fresh n2
  obtain ⟨E2, x2⟩ := x1.snoc (o := .ins C pd []) (ob := .ins C []) n1' fun m' H' _ q => .ins q .nil
  have E3 := E1.trans E2
  have rd2 : VRs X.K (m ++ [pa]) (upd (upd H pd (.own pa)) pa (.ins C pd [])) (V.ref pa :: (vs ++ dvs)) (D.ref S.length :: (ds ++ dd)) := .cons (.ref (by rw [← x.len]; simp)) ((rd.append hdd).ext E3 x.muts)
  have nb : mkF C g (ds ++ dd) S ≠ .bad := fun z => by
    rw [z] at hg
    generalize gn (ds ++ dd) S = A at hg hp
    cases hg with
    | bad => exact hp.1 rfl
    | refl => exact hp.1 rfl
  have hsp : spL X.K g ps.length (V.ref pa :: (vs ++ dvs)) (upd (upd H pd (.own pa)) pa (.ins C pd [])) (fun v H' => ∃ d S', g (.ref S.length :: (ds ++ dd)) (S ++ [.ins C []]) = .ok d S' ∧ QV X.K (m ++ [pa]) (upd (upd H pd (.own pa)) pa (.ins C pd [])) S' d v H')
      (fun cls d H' => ∃ C' fs S', g (.ref S.length :: (ds ++ dd)) (S ++ [.ins C []]) = .exc C' fs S' ∧ WL X.K (m ++ [pa]) (upd (upd H pd (.own pa)) pa (.ins C pd [])) C' fs S' cls d H') :=
    ⟨by rw [List.length_cons]; exact hl, _, _, _, x2, rd2, fun z => nb (by unfold mkF; rw [z]; rfl), fun d S' q v H' z => ⟨d, S', q, z⟩, fun C' fs S' q cls d H' z => ⟨C', fs, S', q, z⟩⟩
  have hl2 : (Value.ref pa :: us ++ ds0).length = ps.length := by rw [List.cons_append, ← r2.length, List.length_cons]; exact hl
  refine wpAny_call (make_map (f := f) I.kIn M.makes M.init (beq_iff_eq.mp M.fn) ?_)
  rw [← hpa, ← hpd]
  refine codeAny_mono (Fn.run _ X.stack _ _ ⟨Value.ref pa :: us, []⟩ (Value.ref pa :: (us ++ ds0)) _ _ _ (hr.make C us []) (I2.env0.make C us []) (hb _ (Value.ref pa :: us) I2.kIn hl2) r2 hsp) fun r s' hq => ?_
  cases r with
  | error e =>
    obtain ⟨C', fs, S', q, w0⟩ : ∃ C' fs S', g (.ref S.length :: (ds ++ dd)) (S ++ [.ins C []]) = .exc C' fs S' ∧ XE X (fun cls d σ' H' => σ' = σ ∧ WL X.K m H C' fs S' cls d H') e s' := by
      have hx := XE.of_call (W := fun cls d σ' H' => σ' = σ ∧ ∃ C' fs S', g (.ref S.length :: (ds ++ dd)) (S ++ [.ins C []]) = .exc C' fs S' ∧ WL X.K m H C' fs S' cls d H') I2 (fun cls d H' w => by
        obtain ⟨C', fs, S', q, w⟩ := w
        exact ⟨rfl, C', fs, S', q, w.ext E3⟩) hq
      obtain ⟨_, _, _, _, _, _, _, _, _, _, _, _, _, _, _, _, _, C', fs, S', q, _⟩ := id hx
      refine ⟨C', fs, S', q, XE.imp hx fun cls d σ' H' w => ?_⟩
      obtain ⟨w1, C2, fs2, S2, q2, w2⟩ := w
      rw [q] at q2
      cases q2
      exact ⟨w1, w2⟩
    have e0 : mkF C g (ds ++ dd) S = .exc C' fs S' := by unfold mkF; rw [q]; rfl
    rw [e0] at hg
    generalize hA : gn (ds ++ dd) S = A at hg hp
    cases hg with
    | bad => exact absurd rfl hp.1
    | refl => exact hp.2 _ _ _ rfl e s' w0
    | gcx _ _ _ h b => exact hp.2 _ _ _ rfl e s' (XE.imp w0 fun cls d σ' H' w => ⟨w.1, wl_gc x w.2 h b⟩)
  | ok fl =>
    cases fl with
    | ret u =>
      obtain ⟨v, H', I3, rv, d, S', q, m', e', x', w'⟩ := I2.after hq
      have hn : d = .non := by
        cases d with
        | non => rfl
        | _ => exact absurd (by unfold mkF; rw [q]; rfl) nb
      subst hn
      cases w'
      obtain rfl : u = Value.none := rv
      have e0 : mkF C g (ds ++ dd) S = .ok (.ref S.length) S' := by unfold mkF; rw [q]; rfl
      have qv : QV X.K m H S' (.ref S.length) (.ref pa) H' := ⟨m', E3.trans e', x', .ref (e'.get (by rw [← x.len]; simp))⟩
      refine ⟨rfl, ?_⟩
      rw [e0] at hg
      generalize hA : gn (ds ++ dd) S = A at hg hp
      cases hg with
      | bad => exact absurd rfl hp.1
      | refl =>
        obtain ⟨m2, z1, z2, z3⟩ := qv
        exact ⟨_, _, rfl, .ref pa, H', m2, I3, rfl, z1, z2, z3⟩
      | gc _ _ _ h e b =>
        subst e
        obtain ⟨m2, z1, z2, z3⟩ := qv_gc x qv h b
        exact ⟨_, _, rfl, .ref pa, H', m2, I3, rfl, z1, z2, z3⟩
    | next => exact False.elim hq
    | brk => exact False.elim hq
    | cont => exact False.elim hq
theorem pel_make {n : Nat} {ds0 : List Value} {dvs : List V} {dd : List D} {gn : F} (M : Mk X.K C f) (Fn : FnL X.prog X.w X.K X.mg X.base k f fd ps g) (hle : ∀ ds S, RLe S (gn ds S) (mkF C g ds S)) (hr : Room (k + 1) X.A) (hg : Gl X x) (hm : X.mg x = some (.ref C)) (hb : Binds X.K fd ps ds0) (hd : Dfl X.K dvs ds0 dd)
    (ha : PAL X (e :: es) t) (hdb : (x == ("__debug__" : Str)) = false := by decide) (he : starEach (e :: es) X.env = (false, eval e X.env) :: starEach es X.env := by rfl) (hpl : (backTo pos (starEach es X.env)).any (·.1) = false := by rfl) (hps : ps.length = n + 1 := by rfl) :
    PEL X (.Call (.Name x p) (e :: es) [] pos) (lCall n gn dd t) := by
  refine ⟨fun pins s σ H m ρ S I x r hp => ?_⟩
  refine wpAny_Call_Name_kw (ld_glob I hg hm ?_ hdb)
  refine PySem.W.callWith_K (h₀ := X.base) I.ok.mod.kin M.kp (run_seqA ha I x r hp fun ds S1 q1 vs us s1 H1 m1 I1 rv e1 x1 w1 r1 hp1 => ⟨I1.kIn, ?_⟩) he hpl
  have hl := hope_if hp1
  rw [if_pos hl] at hp1
  have e0 : lCall n gn dd t ρ S = gn (ds ++ dd) S1 := by unfold lCall; rw [q1, bind_ok, if_pos hl]
  rw [e0]
  exact thn (run_makeL M Fn hr hb hd.vals (hd.rel _ _) I1 x1 rv w1 (by rw [List.length_append, w1.length, (hd.rel m1 H1).length]; omega) (hle _ _) hp1) fun _ _ z => z.left e1
end
end MP

namespace MP
open PySem PySem.Spec PyProof.Rows L2

/-! ### readings of the layer beneath -/
/-- no exception -/
def tL0 (K : PySem.W.Frag) (l : LE) : TE := fun σ H Q => ∃ m ρ S, SR K m H S ∧ ER K m H σ ρ ∧ ∃ d S', l ρ S = .ok d S' ∧ ∀ v H', QV K m H S' d v H' → Q v H'
def tT0 (K : PySem.W.Frag) (l : LT) : TT := fun σ H Q => ∃ m ρ S, SR K m H S ∧ ER K m H σ ρ ∧ ∃ b S', l ρ S = .ok b S' ∧ ∀ H' m', Ext m H m' H' → SR K m' H' S' → Q b H'
theorem PEL.pe {X : Cx} {e : Expr} {l : LE} (h : PEL X e l) : PE X e (tL0 X.K l) := by
  refine ⟨fun pins s σ H Q I ⟨m, ρ, S, x, r, d, S', q, k⟩ => ?_⟩
  have z := h.run pins s σ H m ρ S I x r (by rw [q]; exact Hope.ok)
  rw [q] at z
  refine thn z fun u s' ⟨d', S2, e, v, H', m', I', rv, e', x', w⟩ => ?_
  cases e
  exact ⟨v, H', I', rv, k v H' ⟨m', e', x', w⟩⟩
theorem PTL.pt {X : Cx} {e : Expr} {l : LT} (h : PTL X e l) : PT X e (tT0 X.K l) := by
  refine ⟨fun pins s σ H Q I ⟨m, ρ, S, x, r, d, S', q, k⟩ => ?_⟩
  have z := h.run pins s σ H m ρ S I x r (by rw [q]; exact Hope.ok)
  rw [q] at z
  refine thn z fun u s' ⟨S2, H', m', e, I', e', x'⟩ => ?_
  cases e
  exact ⟨H', I', k H' m' e' x'⟩
theorem PEL.of_pe {X : Cx} {e : Expr} {l : LE} {t : TE} (h : PE X e t) (ht : ∀ σ H m ρ S, SR X.K m H S → ER X.K m H σ ρ → Hope X σ m H (l ρ S) → t σ H (fun v H' => ∃ d S', l ρ S = .ok d S' ∧ QV X.K m H S' d v H')) : PEL X e l :=
  ⟨fun pins s σ H m ρ S I x r hp => thn (h.run pins s σ H _ I (ht σ H m ρ S x r hp)) fun u s' ⟨v, H', I', rv, d, S', q, m', e, x', w⟩ => ⟨d, S', q, v, H', m', I', rv, e, x', w⟩⟩

/-! ### statements -/
inductive Fl where
  | nx (ρ : Ev) | rt (d : D) | bk (ρ : Ev) | ct (ρ : Ev) | ex (C : Addr) (fs : List (Str × D)) (ρ : Ev)
abbrev LS := Ev → Sto → R Fl
/-- behind: slots and heap by the store -/
def SV (K : PySem.W.Frag) (m : List Addr) (H : Hp) (ρ' : Ev) (S' : Sto) (σ' : L2.St) (H' : Hp) : Prop := ∃ m', Ext m H m' H' ∧ SR K m' H' S' ∧ ER K m' H' σ' ρ' ∧ ρ'.length = σ'.length
def WS (K : PySem.W.Frag) (m : List Addr) (H : Hp) (C : Addr) (fs : List (Str × D)) (ρ' : Ev) (S' : Sto) : WX := fun cls d σ' H' =>
  cls = .ref C ∧ ∃ (m' : List Addr), XD K m' H' d fs ∧ Ext m H m' H' ∧ SR K m' H' S' ∧ ER K m' H' σ' ρ' ∧ ρ'.length = σ'.length
/-- the reading: what is wanted at each of the ways out -/
structure HS (X : Cx) (D : Ends) (m : List Addr) (H : Hp) (r : R Fl) : Prop where
  ok : ∃ fl S', r = .ok fl S'
  nx : ∀ ρ' S', r = .ok (.nx ρ') S' → ∀ σ' H', SV X.K m H ρ' S' σ' H' → D.nx σ' H'
  rt : ∀ d S', r = .ok (.rt d) S' → ∀ v H', QV X.K m H S' d v H' → D.rt v H'
  bk : ∀ ρ' S', r = .ok (.bk ρ') S' → ∀ σ' H', SV X.K m H ρ' S' σ' H' → D.bk σ' H'
  ct : ∀ ρ' S', r = .ok (.ct ρ') S' → ∀ σ' H', SV X.K m H ρ' S' σ' H' → D.ct σ' H'
  ex : ∀ C fs ρ' S', r = .ok (.ex C fs ρ') S' → ∀ u s', XE X (WS X.K m H C fs ρ' S') u s' → X.xe u s'
def tSL (X : Cx) (l : LS) : TS := fun D σ H => ∃ m ρ S, SR X.K m H S ∧ ER X.K m H σ ρ ∧ ρ.length = σ.length ∧ HS X D m H (l ρ S)
def PSL (X : Cx) (st : Stmt) (l : LS) : Prop := PS X st (tSL X l)
def PSsL (X : Cx) (st : List Stmt) (l : LS) : Prop := PSs X st (tSL X l)
section
variable {X : Cx} {D : Ends} {m m1 : List Addr} {H H1 : Hp} {r : R Fl} {σ : L2.St} {ρ : Ev} {S S1 : Sto}
theorem SV.left {K : PySem.W.Frag} {ρ' : Ev} {S' : Sto} {σ' : L2.St} {H' : Hp} (e : Ext m H m1 H1) (h : SV K m1 H1 ρ' S' σ' H') : SV K m H ρ' S' σ' H' := by
  obtain ⟨m', e', a, b, c⟩ := h
  exact ⟨m', e.trans e', a, b, c⟩
theorem QV.left {K : PySem.W.Frag} {d : MP.D} {S' : Sto} {v : V} {H' : Hp} (e : Ext m H m1 H1) (h : QV K m1 H1 S' d v H') : QV K m H S' d v H' := by
  obtain ⟨m', e', a, b⟩ := h
  exact ⟨m', e.trans e', a, b⟩
theorem WS.left {K : PySem.W.Frag} {C : Addr} {fs : List (Str × MP.D)} {ρ' : Ev} {S' : Sto} {cls : Value} {d : Option Addr} {σ' : L2.St} {H' : Hp} (e : Ext m H m1 H1) (h : WS K m1 H1 C fs ρ' S' cls d σ' H') : WS K m H C fs ρ' S' cls d σ' H' := by
  obtain ⟨h1, m', h2, h4, h5⟩ := h
  exact ⟨h1, m', h2, e.trans h4, h5⟩
theorem HS.ext (h : HS X D m H r) (e : Ext m H m1 H1) : HS X D m1 H1 r :=
  ⟨h.ok, fun ρ' S' q σ' H' z => h.nx ρ' S' q σ' H' (z.left e), fun d S' q v H' z => h.rt d S' q v H' (z.left e), fun ρ' S' q σ' H' z => h.bk ρ' S' q σ' H' (z.left e), fun ρ' S' q σ' H' z => h.ct ρ' S' q σ' H' (z.left e),
    fun C fs ρ' S' q u s' z => h.ex C fs ρ' S' q u s' (XE.imp z fun _ _ _ _ w => w.left e)⟩
/-- an exception of an expression is one of the statement -/
def liftX {α : Type} (ρ : Ev) (r : R α) (f : α → Sto → R Fl) : R Fl := match r with
  | .ok a S => f a S
  | .exc C fs S => .ok (.ex C fs ρ) S
  | .bad => .bad
theorem HS.hope {α : Type} {r : R α} {f : α → Sto → R Fl} (h : HS X D m H (liftX ρ r f)) (er : ER X.K m H σ ρ) (hl : ρ.length = σ.length) (x : SR X.K m H S) : Hope X σ m H r := by
  cases r with
  | bad => obtain ⟨fl, S', q⟩ := h.ok; cases q
  | ok a S => exact Hope.ok
  | exc C fs S' =>
    refine ⟨fun z => (nomatch z), fun C' fs' S'' q u s' z => ?_⟩
    cases q
    refine h.ex C fs ρ S' rfl u s' (XE.imp z fun cls d σ' H' w => ?_)
    obtain ⟨w0, w1, m', w2, w4, w5⟩ := w
    subst w0
    exact ⟨w1, m', w2, w4, w5, er.ext w4 x.muts, hl⟩
/-- an expression in a statement: what is told of it -/
theorem expr_in {e : Expr} {l : LE} (h : PEL X e l) {pins : List (Addr × Obj)} {s : Shared} (I : Inv X pins σ H s) (x : SR X.K m H S) (er : ER X.K m H σ ρ) (hl : ρ.length = σ.length) {f : MP.D → Sto → R Fl} (hs : HS X D m H (liftX ρ (l ρ S) f)) {Q : Value → Shared → Prop}
    (k : ∀ d S1, l ρ S = .ok d S1 → ∀ v u s1 H1 m1, Inv X pins σ H1 s1 → RelV v u → Ext m H m1 H1 → SR X.K m1 H1 S1 → VR X.K m1 H1 v d → ER X.K m1 H1 σ ρ → HS X D m1 H1 (f d S1) → Q u s1) :
    wpAny (model X.prog X.w) X.A (eval e X.env) Q X.xe s := by
  refine thn (h.run pins s σ H m ρ S I x er (hs.hope er hl x)) fun u s1 ⟨d, S1, q, v, H1, m1, I1, rv, e1, x1, w⟩ => ?_
  rw [q] at hs
  exact k d S1 q v u s1 H1 m1 I1 rv e1 x1 w (er.ext e1 x.muts) (HS.ext hs e1)
theorem test_in {e : Expr} {l : LT} (h : PTL X e l) {pins : List (Addr × Obj)} {s : Shared} (I : Inv X pins σ H s) (x : SR X.K m H S) (er : ER X.K m H σ ρ) (hl : ρ.length = σ.length) {f : Bool → Sto → R Fl} (hs : HS X D m H (liftX ρ (l ρ S) f)) {Q : Bool → Shared → Prop}
    (k : ∀ b S1, l ρ S = .ok b S1 → ∀ s1 H1 m1, Inv X pins σ H1 s1 → Ext m H m1 H1 → SR X.K m1 H1 S1 → ER X.K m1 H1 σ ρ → HS X D m1 H1 (f b S1) → Q b s1) :
    wpAny (model X.prog X.w) X.A (isTrue e X.env (eval e X.env)) Q X.xe s := by
  refine thn (h.run pins s σ H m ρ S I x er (hs.hope er hl x)) fun u s1 ⟨S1, H1, m1, q, I1, e1, x1⟩ => ?_
  rw [q] at hs
  exact k u S1 q s1 H1 m1 I1 e1 x1 (er.ext e1 x.muts) (HS.ext hs e1)
theorem sv_same (x : SR X.K m H S) (er : ER X.K m H σ ρ) (hl : ρ.length = σ.length) : SV X.K m H ρ S σ H := ⟨m, Ext.refl, x, er, hl⟩
end

section
variable {X : Cx} {st : Stmt} {rest : List Stmt} {l l' l1 l2 : LS} {e o i c : Expr} {le lo li : LE} {tc : LT} {pos pos' : Pos} {x : Str}
def lNext : LS := fun ρ S => .ok (.nx ρ) S
def Fl.go (l2 : LS) (fl : Fl) (S1 : Sto) : R Fl := match fl with
  | .nx ρ1 => l2 ρ1 S1
  | fl => .ok fl S1
def lSeq (l1 l2 : LS) : LS := fun ρ S => (l1 ρ S).bind (Fl.go l2)
theorem pss_imp {sts : List Stmt} {t u : TS} (h : PSs X sts t) (k : ∀ D σ H, u D σ H → t D σ H) : PSs X sts u := ⟨fun pins s σ H D I q => h.run pins s σ H D I (k D σ H q)⟩
theorem ps_imp {st : Stmt} {t u : TS} (h : PS X st t) (k : ∀ D σ H, u D σ H → t D σ H) : PS X st u := ⟨fun pins s σ H D I q => h.run pins s σ H D I (k D σ H q)⟩
theorem pssl_nil : PSsL X [] lNext := pss_imp pss_nil fun D σ H ⟨m, ρ, S, x, er, hl, h⟩ => h.nx ρ S rfl σ H (sv_same x er hl)
theorem pssl_one (h : PSL X st l) : PSsL X [st] l := pss_one h
theorem bind_nbad {α β : Type} {r : R α} {f : α → Sto → R β} {b : β} {S' : Sto} (h : r.bind f = .ok b S') : ∃ a S, r = .ok a S ∧ f a S = .ok b S' := by
  cases r with
  | ok a S => exact ⟨a, S, rfl, h⟩
  | exc _ _ _ => cases h
  | bad => cases h
theorem HS.seq {D : Ends} {m : List Addr} {H : Hp} {ρ : Ev} {S : Sto} (h : HS X D m H (lSeq l1 l2 ρ S)) : HS X { D with nx := fun σ' H' => tSL X l2 D σ' H' } m H (l1 ρ S) := by
  obtain ⟨fl, S', q⟩ := h.ok
  obtain ⟨a, S1, q1, q2⟩ := bind_nbad q
  have key : lSeq l1 l2 ρ S = Fl.go l2 a S1 := by unfold lSeq; rw [q1]; rfl
  refine ⟨⟨a, S1, q1⟩, fun ρ' S2 e σ' H' z => ?_, fun d S2 e v H' z => ?_, fun ρ' S2 e σ' H' z => ?_, fun ρ' S2 e σ' H' z => ?_, fun C fs ρ' S2 e u s' z => ?_⟩
  · rw [q1] at e
    cases e
    obtain ⟨m', e', x', er', hl'⟩ := z
    rw [key] at h
    exact ⟨m', ρ', S1, x', er', hl', HS.ext h e'⟩
  · rw [q1] at e
    cases e
    exact h.rt d S1 key v H' z
  · rw [q1] at e
    cases e
    exact h.bk ρ' S1 key σ' H' z
  · rw [q1] at e
    cases e
    exact h.ct ρ' S1 key σ' H' z
  · rw [q1] at e
    cases e
    exact h.ex C fs ρ' S1 key u s' z
theorem pssl_cons (h1 : PSL X st l1) (h2 : PSsL X rest l2) : PSsL X (st :: rest) (lSeq l1 l2) :=
  pss_imp (pss_cons h1 h2) fun D σ H ⟨m, ρ, S, x, er, hl, h⟩ => ⟨m, ρ, S, x, er, hl, h.seq⟩
def lBrk : LS := fun ρ S => .ok (.bk ρ) S
def lCont : LS := fun ρ S => .ok (.ct ρ) S
/-- an expression whose value is dropped -/
def lExpr (le : LE) : LS := fun ρ S => liftX ρ (le ρ S) fun _ S1 => .ok (.nx ρ) S1
theorem psl_expr (he : PEL X e le) (hs : swapsWith e none pos.line X.env = pure false := by rfl) : PSL X (.Expr e pos) (lExpr le) := by
  refine ⟨fun pins s σ H D I ⟨m, ρ, S, x, er, hl, h⟩ => ?_⟩
  exact wpAny_Expr_any (expr_in he I x er hl h fun d S1 q v u s1 H1 m1 I1 rv e1 x1 w er1 h1 => ⟨σ, H1, I1, h1.nx ρ S1 rfl σ H1 (sv_same x1 er1 hl)⟩) I.quiet hs
def lRet (le : LE) : LS := fun ρ S => liftX ρ (le ρ S) fun d S1 => .ok (.rt d) S1
theorem psl_ret (he : PEL X e le) : PSL X (.Return (some e) pos) (lRet le) := by
  refine ⟨fun pins s σ H D I ⟨m, ρ, S, x, er, hl, h⟩ => ?_⟩
  exact wpAny_Return_some (expr_in he I x er hl h fun d S1 q v u s1 H1 m1 I1 rv e1 x1 w er1 h1 => ⟨v, σ, H1, I1, rv, h1.rt d S1 rfl v H1 (qv_same x1 w)⟩)
def lRetN : LS := fun _ S => .ok (.rt .non) S
def lIfS (tc : LT) (l1 l2 : LS) : LS := fun ρ S => liftX ρ (tc ρ S) fun b S1 => if b = true then l1 ρ S1 else l2 ρ S1
theorem psl_if {a b : List Stmt} (hc : PTL X c tc) (ha : PSsL X a l1) (hb : PSsL X b l2) : PSL X (.If c a b pos) (lIfS tc l1 l2) := by
  refine ⟨fun pins s σ H D I ⟨m, ρ, S, x, er, hl, h⟩ => ?_⟩
  refine wpAny_If (test_in hc I x er hl h fun k S1 q s1 H1 m1 I1 e1 x1 er1 h1 => ?_)
  cases k with
  | true => exact ha.run pins s1 σ H1 D I1 ⟨m1, ρ, S1, x1, er1, hl, h1⟩
  | false => exact hb.run pins s1 σ H1 D I1 ⟨m1, ρ, S1, x1, er1, hl, h1⟩
/-- name = e -/
def lSet (i : Nat) (le : LE) : LS := fun ρ S => liftX ρ (le ρ S) fun d S1 => .ok (.nx (ρ.set i (some d))) S1
theorem psl_set {i : Nat} (hN : X.N.Nodup) (he : PEL X e le) (hi : X.N[i]? = some x := by rfl) (hx : Loc X.env.scope x := by first | exact .inl rfl | exact .inr rfl) (hs : swapsWith e (some (.Name x pos')) pos.line X.env = pure false := by rfl) (hf : X.fn x = true ∨ X.env.scope.names.lookup x = some .local := by first | exact .inl rfl | exact .inr rfl | assumption) :
    PSL X (.Assign [.Name x pos'] e pos) (lSet i le) := by
  refine ⟨fun pins s σ H D I ⟨m, ρ, S, x0, er, hl, h⟩ => ?_⟩
  refine wpAny_Assign_Name (expr_in he I x0 er hl h fun d S1 q v u s1 H1 m1 I1 rv e1 x1 w er1 h1 => ?_) hs
  exact store_ok I1 hN hi hx rv (fun s2 I2 => ⟨_, H1, I2, h1.nx _ S1 rfl _ H1 ⟨m1, Ext.refl, x1, er1.set w, by simp [hl]⟩⟩) hf
end
end MP

namespace MP
open PySem PySem.Spec PyProof.Rows L2

/-! ### while -/
def tTX (X : Cx) (l : LT) : TT := fun σ H Q => ∃ m ρ S, SR X.K m H S ∧ ER X.K m H σ ρ ∧ Hope X σ m H (l ρ S) ∧ ∀ b S', l ρ S = .ok b S' → ∀ H' m', Ext m H m' H' → SR X.K m' H' S' → Q b H'
/-- a loop's turn forgets what was not there ahead of the loop -/
def wk : Ev → Ev → Ev
  | _, [] => []
  | [], _ :: bs => none :: wk [] bs
  | none :: as, _ :: bs => none :: wk as bs
  | some _ :: as, b :: bs => b :: wk as bs
theorem wk_length : ∀ (as bs : Ev), (wk as bs).length = bs.length
  | _, [] => by cases ‹Ev› <;> rfl
  | [], _ :: bs => by simp [wk, wk_length]
  | none :: as, _ :: bs => by simp [wk, wk_length]
  | some _ :: as, b :: bs => by simp [wk, wk_length]
theorem wk_some : ∀ {as bs : Ev} {i : Nat} {d : D}, (wk as bs)[i]? = some (some d) → bs[i]? = some (some d)
  | as, [], i, d, h => by cases as <;> simp [wk] at h
  | [], b :: bs, 0, d, h => by simp [wk] at h
  | [], b :: bs, i + 1, d, h => by
    simp only [wk, List.getElem?_cons_succ] at h ⊢
    exact wk_some h
  | none :: as, b :: bs, 0, d, h => by simp [wk] at h
  | none :: as, b :: bs, i + 1, d, h => by
    simp only [wk, List.getElem?_cons_succ] at h ⊢
    exact wk_some h
  | some _ :: as, b :: bs, 0, d, h => by simpa [wk] using h
  | some _ :: as, b :: bs, i + 1, d, h => by
    simp only [wk, List.getElem?_cons_succ] at h ⊢
    exact wk_some h
theorem SV.wk {K : PySem.W.Frag} {m : List Addr} {H : Hp} {ρ' : Ev} {S' : Sto} {σ' : L2.St} {H' : Hp} (ρ0 : Ev) (h : SV K m H ρ' S' σ' H') : SV K m H (MP.wk ρ0 ρ') S' σ' H' := by
  obtain ⟨m', a, b, c, d⟩ := h
  exact ⟨m', a, b, ⟨fun i x e => c.at_ i x (wk_some e), by rw [wk_length]; exact d⟩, by rw [wk_length]; exact d⟩
def Fl.loop (ρ0 : Ev) (k : LS) (fl : Fl) (S : Sto) : R Fl := match fl with
  | .nx ρ => k (wk ρ0 ρ) S
  | .ct ρ => k (wk ρ0 ρ) S
  | .bk ρ => .ok (.nx (wk ρ0 ρ)) S
  | fl => .ok fl S
def whileG (ρ0 : Ev) (tc : LT) (lb : LS) : Nat → LS
  | 0 => fun _ _ => .bad
  | n + 1 => fun ρ S => liftX ρ (tc ρ S) fun b S1 => if b = true then (lb ρ S1).bind (Fl.loop ρ0 (whileG ρ0 tc lb n)) else .ok (.nx ρ) S1
def lWhile (n : Nat) (tc : LT) (lb : LS) : LS := fun ρ S => whileG ρ tc lb n ρ S
theorem HS.loop {X : Cx} {D : Ends} {m : List Addr} {H : Hp} {l k : LS} {ρ ρ0 : Ev} {S : Sto} (h : HS X D m H ((l ρ S).bind (Fl.loop ρ0 k))) : HS X { D with nx := fun σ' H' => tSL X k D σ' H', ct := fun σ' H' => tSL X k D σ' H', bk := D.nx } m H (l ρ S) := by
  obtain ⟨fl, S', q⟩ := h.ok
  obtain ⟨a, S1, q1, q2⟩ := bind_nbad q
  have key : (l ρ S).bind (Fl.loop ρ0 k) = Fl.loop ρ0 k a S1 := by rw [q1]; rfl
  rw [key] at h
  refine ⟨⟨a, S1, q1⟩, fun ρ' S2 e σ' H' z => ?_, fun d S2 e v H' z => ?_, fun ρ' S2 e σ' H' z => ?_, fun ρ' S2 e σ' H' z => ?_, fun C fs ρ' S2 e u s' z => ?_⟩
  · rw [q1] at e
    cases e
    obtain ⟨m', e', x', er', hl'⟩ := z.wk ρ0
    exact ⟨m', _, S1, x', er', hl', HS.ext h e'⟩
  · rw [q1] at e
    cases e
    exact h.rt d S1 rfl v H' z
  · rw [q1] at e
    cases e
    exact h.nx _ S1 rfl σ' H' (z.wk ρ0)
  · rw [q1] at e
    cases e
    obtain ⟨m', e', x', er', hl'⟩ := z.wk ρ0
    exact ⟨m', _, S1, x', er', hl', HS.ext h e'⟩
  · rw [q1] at e
    cases e
    exact h.ex C fs ρ' S1 rfl u s' z
/-! ### what is walked -/
/-- the items, and what must stay of the store meanwhile -/
structure Its' where
  items : List D
  chk : Sto → Prop
abbrev LI := Ev → Sto → R Its'
/-- what a turn hands over: a thing of the layer, or a new tuple of such -/
def YS (K : PySem.W.Frag) (m : List Addr) (H Hx : Hp) (x : V) (H' : Hp) (d : D) : Prop :=
  (H' = Hx ∧ VR K m H x d) ∨ ∃ T ws ds, Hx T = none ∧ H' = upd Hx T (.tup ws) ∧ x = .ref T ∧ d = .tup ds ∧ VRs K m H ws ds
def Ylds (K : PySem.W.Frag) (J : It) (m1 : List Addr) (H1 : Hp) (it : Its') : Prop := ∀ m2 H2 S2 Hx, Ext m1 H1 m2 H2 → SR K m2 H2 S2 → it.chk S2 → (∀ a o, H2 a = some o → Hx a = some o) →
  (∀ (i : Nat) (d : D), it.items[i]? = some d → J.go i Hx ∧ ∀ x H', J.yld i Hx x H' → YS K m2 H2 Hx x H' d) ∧ ∀ i, it.items.length ≤ i → J.stop i Hx
def tIL (X : Cx) (li : LI) : TI := fun σ H Rr => ∃ m ρ S, SR X.K m H S ∧ ER X.K m H σ ρ ∧ Hope X σ m H (li ρ S) ∧ ∀ it S1, li ρ S = .ok it S1 → ∀ J H1 m1, Ext m H m1 H1 → SR X.K m1 H1 S1 → Ylds X.K J m1 H1 it → Rr J H1
def PIL (X : Cx) (tg iter : Expr) (li : LI) : Prop := PI X tg iter (tIL X li)
def iterOf (S : Sto) : D → Option Its'
  | .lst xs => some ⟨xs, fun _ => True⟩
  | .tup xs => some ⟨xs, fun _ => True⟩
  | .ftup xs => some ⟨xs, fun _ => True⟩
  | .str z => some ⟨z.cps.toList.map fun c => .str ⟨#[c]⟩, fun _ => True⟩
  | .ref i => match S[i]? with
    | some (.lst xs) => some ⟨xs, fun S' => S'[i]? = some (.lst xs)⟩
    | _ => none
  | _ => none
def liftI (o : Option Its') (S : Sto) : R Its' := match o with
  | some d => .ok d S
  | none => .bad
def lIter (l : LE) : LI := fun ρ S => (l ρ S).bind fun d S1 => liftI (iterOf S1 d) S1
theorem yl_list {K : PySem.W.Frag} {m1 : List Addr} {H1 : Hp} {a : Addr} {vs : List V} {xs : List D} (mu : ∀ a ∈ m1, Mut (H1 a)) (n : a ∉ m1) (h : Rd H1 a (.lst vs)) (r : VRs K m1 H1 vs xs) : Ylds K (Itl K a) m1 H1 ⟨xs, fun _ => True⟩ := fun m2 H2 S2 Hx e x _ sup => by
  have h2 := e.rd n h
  have h3 : Rd Hx a (.lst vs) := by
    rcases h2 with h2 | ⟨o, h2⟩
    · exact .inl (sup _ _ h2)
    · exact .inr ⟨o, sup _ _ h2⟩
  have r2 := r.ext e mu
  refine ⟨fun i d hi => ?_, fun i hi => ⟨vs, .inl h3, by rw [r.length]; exact hi⟩⟩
  obtain ⟨v, hv, w⟩ := r2.getr hi
  refine ⟨⟨vs, v, .inl h3, hv⟩, fun y H' z => .inl ⟨z.1, ?_⟩⟩
  have := z.2 vs (.inl h3)
  rw [hv] at this
  cases this
  exact w
theorem yl_listK {K : PySem.W.Frag} {m1 : List Addr} {H1 : Hp} {a : Addr} {vs : List V} {xs : List D} (mu : ∀ a ∈ m1, Mut (H1 a)) (h : ∀ H, SqL K H a vs) (r : VRs K m1 H1 vs xs) : Ylds K (Itl K a) m1 H1 ⟨xs, fun _ => True⟩ := fun m2 H2 S2 Hx e x _ sup => by
  have r2 := r.ext e mu
  refine ⟨fun i d hi => ?_, fun i hi => ⟨vs, h _, by rw [r.length]; exact hi⟩⟩
  obtain ⟨v, hv, w⟩ := r2.getr hi
  refine ⟨⟨vs, v, h _, hv⟩, fun y H' z => .inl ⟨z.1, ?_⟩⟩
  have := z.2 vs (h _)
  rw [hv] at this
  cases this
  exact w
theorem yl_ref {K : PySem.W.Frag} {m1 : List Addr} {H1 : Hp} {a : Addr} {xs : List D} {j : Nat} (hj : m1[j]? = some a) : Ylds K (Itl K a) m1 H1 ⟨xs, fun S' => S'[j]? = some (.lst xs)⟩ := fun m2 H2 S2 Hx e x c sup => by
  have z := x.at_ j a _ (e.get hj) c
  cases z with
  | lst h r =>
    rename_i vs
    have h3 : SqL K Hx a vs := SqL.of (sup _ _ h)
    refine ⟨fun i d hi => ?_, fun i hi => ⟨vs, h3, by rw [r.length]; exact hi⟩⟩
    obtain ⟨v, hv, w⟩ := r.getr hi
    refine ⟨⟨vs, v, h3, hv⟩, fun y H' z => .inl ⟨z.1, ?_⟩⟩
    have := z.2 vs h3
    rw [hv] at this
    cases this
    exact w
theorem yl_tup {K : PySem.W.Frag} {m1 : List Addr} {H1 : Hp} {a : Addr} {vs : List V} {xs : List D} (mu : ∀ a ∈ m1, Mut (H1 a)) (h : Rd H1 a (.tup vs)) (r : VRs K m1 H1 vs xs) : Ylds K (Itt K a) m1 H1 ⟨xs, fun _ => True⟩ := fun m2 H2 S2 Hx e x _ sup => by
  have h3 : SqT K Hx a vs := SqT.rd (Rd.sup sup (e.rd (fun z => not_mut_tup h (mu a z)) h))
  have r2 := r.ext e mu
  refine ⟨fun i d hi => ?_, fun i hi => ⟨vs, h3, by rw [r.length]; exact hi⟩⟩
  obtain ⟨v, hv, w⟩ := r2.getr hi
  refine ⟨⟨vs, v, h3, hv⟩, fun y H' z => .inl ⟨z.1, ?_⟩⟩
  have := z.2 vs h3
  rw [hv] at this
  cases this
  exact w
theorem yl_str {K : PySem.W.Frag} {m1 : List Addr} {H1 : Hp} {z : Str} : Ylds K (L2.Its z) m1 H1 ⟨z.cps.toList.map fun c => .str ⟨#[c]⟩, fun _ => True⟩ := fun m2 H2 S2 Hx e x _ sup => by
  refine ⟨fun i d hi => ?_, fun i hi => by show z.cps.size ≤ i; simpa using hi⟩
  have hl : i < z.cps.size := by
    have := (List.getElem?_eq_some_iff.mp hi).1
    simpa using this
  refine ⟨hl, fun y H' q => .inl ⟨q.1, ?_⟩⟩
  obtain ⟨c, hc, rfl⟩ := q.2
  simp only [List.getElem?_map, Array.getElem?_toList, hc, Option.map_some, Option.some.injEq] at hi
  subst hi
  exact .str _
section
variable {X : Cx} {tg e : Expr} {l : LE} {t : LA} {p pos : Pos} {a b : Expr}
theorem pil_val (he : PEL X e l) : PIL X tg e (lIter l) := by
  refine ⟨fun pins s σ H Rr I ⟨m, ρ, S, x, er, hp, k⟩ => ?_⟩
  refine run_seq he I x er hp fun d S1 q v u s1 H1 m1 I1 rv e1 x1 w er1 hp1 => ?_
  cases q2 : iterOf S1 d with
  | none => rw [q2] at hp1; exact absurd rfl hp1.1
  | some it =>
    have q3 : lIter l ρ S = .ok it S1 := by unfold lIter; rw [q, bind_ok, q2]; rfl
    have K2 := fun J y => k it S1 q3 J H1 m1 e1 x1 y
    cases w with
    | @lst a vs xs n h r =>
      cases q2
      obtain rfl : u = Value.ref a := rv
      obtain ⟨its, rv', pp, hz⟩ := I1.list (.inl h)
      refine wpAny_pyIter_list pp.isList ?_
      refine ⟨s1.heap.objs.size, [s1.heap.objs.size], _, _, H1, rfl, I1.kept (t' := s1.toks) fun b o e => Heap.get?_push_of_some _ e, turn_list a _, ⟨_, Heap.get?_push_size _ rfl, rfl, rfl⟩, fun b hb => ?_, K2 _ (yl_list x1.muts n h r)⟩
      have e : b = s1.heap.objs.size := by simpa using hb
      subst e
      exact I1.fpOk (Nat.le_refl _) (I1.hok.fresh (Nat.le_refl _))
    | @lstK a vs xs ob its n hk h1 h2 h3 h4 h5 r =>
      cases q2
      obtain rfl : u = Value.ref a := rv
      obtain ⟨its, rv', pp, hz⟩ := I1.list (H := H1) (a := a) (.inr ⟨ob, its, n, hk, h1, h2, h3, h4, h5⟩)
      refine wpAny_pyIter_list pp.isList ?_
      refine ⟨s1.heap.objs.size, [s1.heap.objs.size], _, _, H1, rfl, I1.kept (t' := s1.toks) fun b o e => Heap.get?_push_of_some _ e, turn_list a _, ⟨_, Heap.get?_push_size _ rfl, rfl, rfl⟩, fun b hb => ?_, K2 _ (yl_listK x1.muts (fun _ => .inr ⟨ob, _, n, hk, h1, h2, h3, h4, h5⟩) r)⟩
      have e : b = s1.heap.objs.size := by simpa using hb
      subst e
      exact I1.fpOk (Nat.le_refl _) (I1.hok.fresh (Nat.le_refl _))
    | @tup a vs xs h r =>
      cases q2
      obtain rfl : u = Value.ref a := rv
      obtain ⟨its, rv', pp, hz⟩ := I1.tuple (SqT.of h)
      refine wpAny_pyIter_tuple (show s1.heap.IsTuple a its.toArray from pp) ?_
      refine ⟨s1.heap.objs.size, [s1.heap.objs.size], _, _, H1, rfl, I1.kept (t' := s1.toks) fun b o e => Heap.get?_push_of_some _ e, turn_tuple a _, ⟨_, Heap.get?_push_size _ rfl, rfl, rfl⟩, fun b hb => ?_, K2 _ (yl_tup x1.muts (.inl h) r)⟩
      have e : b = s1.heap.objs.size := by simpa using hb
      subst e
      exact I1.fpOk (Nat.le_refl _) (I1.hok.fresh (Nat.le_refl _))
    | @ftup a vs xs o hd h r =>
      cases q2
      obtain rfl : u = Value.ref a := rv
      obtain ⟨its, rv', pp, hz⟩ := I1.tuple (SqT.rd (.inr ⟨o, h⟩))
      refine wpAny_pyIter_tuple (show s1.heap.IsTuple a its.toArray from pp) ?_
      refine ⟨s1.heap.objs.size, [s1.heap.objs.size], _, _, H1, rfl, I1.kept (t' := s1.toks) fun b o e => Heap.get?_push_of_some _ e, turn_tuple a _, ⟨_, Heap.get?_push_size _ rfl, rfl, rfl⟩, fun b hb => ?_, K2 _ (yl_tup x1.muts (.inr ⟨o, h⟩) r)⟩
      have e : b = s1.heap.objs.size := by simpa using hb
      subst e
      exact I1.fpOk (Nat.le_refl _) (I1.hok.fresh (Nat.le_refl _))
    | str z =>
      cases q2
      obtain ⟨tk, rfl⟩ := rv
      cases ha : z.cps.all (· < 128)
      · exact wpAny_pyIter_wide ha (pi_one (tk := s1.toks) I1 _ (turn_str _ z tk "str_iterator" (.inr rfl)) ⟨_, Heap.get?_push_size _ rfl, rfl, rfl⟩ (K2 _ yl_str))
      · exact wpAny_pyIter_ascii ha (pi_one (tk := s1.toks) I1 _ (turn_str _ z tk "str_ascii_iterator" (.inl rfl)) ⟨_, Heap.get?_push_size _ rfl, rfl, rfl⟩ (K2 _ yl_str))
    | @ref i a h =>
      dsimp only [iterOf] at q2
      cases q4 : S1[i]? with
      | none => rw [q4] at q2; cases q2
      | some ob =>
        rw [q4] at q2
        cases ob with
        | lst xs =>
          cases q2
          have z := x1.at_ i a _ h q4
          cases z with
          | lst h' r =>
            obtain rfl : u = Value.ref a := rv
            obtain ⟨its, rv', pp, hz⟩ := I1.list (SqL.of h')
            refine wpAny_pyIter_list pp.isList ?_
            refine ⟨s1.heap.objs.size, [s1.heap.objs.size], _, _, H1, rfl, I1.kept (t' := s1.toks) fun b o e => Heap.get?_push_of_some _ e, turn_list a _, ⟨_, Heap.get?_push_size _ rfl, rfl, rfl⟩, fun b hb => ?_, K2 _ (yl_ref h)⟩
            have e : b = s1.heap.objs.size := by simpa using hb
            subst e
            exact I1.fpOk (Nat.le_refl _) (I1.hok.fresh (Nat.le_refl _))
        | dct _ _ => cases q2
        | dcn _ _ => cases q2
        | tab _ _ _ => cases q2
        | ins _ _ => cases q2
    | _ => cases q2
/-- range(n) -/
def lRange1 (t : LA) : LI := fun ρ S => (t ρ S).bind fun ds S1 => match ds with
  | [.int j] => if -(2 ^ 62) ≤ j ∧ j < 2 ^ 62 then .ok ⟨(List.range j.toNat).map fun (i : Nat) => .int (i : Int), fun _ => True⟩ S1 else .bad
  | _ => .bad
theorem pil_range1 (hg : Gl X "range") (hm : X.mg "range" = none) (ha : PAL X [a] t) (hs : starEach [a] X.env = [(false, eval a X.env)] := by rfl) : PIL X tg (.Call (.Name "range" p) [a] [] pos) (lRange1 t) := by
  refine ⟨fun pins s σ H Rr I ⟨m, ρ, S, x, er, hp, k⟩ => ?_⟩
  refine Call_ (ld_blt I hg hm boot_range (PyProof.Rows.callWith_type1 (run_seqA ha I x er hp fun ds S1 q1 vs us s1 H1 m1 I1 rv e1 x1 w1 r1 hp1 => ?_) hs rfl))
  cases w1 with
  | nil => exact absurd rfl hp1.1
  | cons w w2 =>
    cases w2 with
    | cons _ _ => cases w <;> exact absurd rfl hp1.1
    | nil =>
      cases w with
      | int j =>
        have hz := hope_if hp1
        have q2 : lRange1 t ρ S = .ok ⟨(List.range j.toNat).map fun (i : Nat) => .int (i : Int), fun _ => True⟩ S1 := by unfold lRange1; rw [q1, bind_ok]; exact if_pos hz
        cases rv with
        | cons r rr =>
          cases rr
          obtain ⟨tk, rfl⟩ := r
          refine call_range_1 (range_it I1 (by omega) (by omega) hz.1 hz.2 (k _ S1 q2 _ H1 m1 e1 x1 fun m2 H2 S2 Hx e x _ sup => ⟨fun i d hi => ?_, fun i hi => ?_⟩))
          · have hl : i < (j - 0).toNat := by
              have := (List.getElem?_eq_some_iff.mp hi).1
              simpa using this
            refine ⟨hl, fun y H' q => .inl ⟨q.1, ?_⟩⟩
            rw [q.2]
            simp only [List.getElem?_map, List.getElem?_range (show i < j.toNat by simpa using hl), Option.map_some, Option.some.injEq] at hi
            subst hi
            rw [Int.zero_add]
            exact .int _
          · show (j - 0).toNat ≤ i
            simpa using hi
      | _ => exact absurd rfl hp1.1
/-- enumerate(a list) -/
def enumD (xs : List D) : List D := (List.range xs.length).zipWith (fun (i : Nat) x => .tup [.int (i : Int), x]) xs
def lEnum (t : LA) : LI := fun ρ S => (t ρ S).bind fun ds S1 => match ds with
  | [.lst xs] => .ok ⟨enumD xs, fun _ => True⟩ S1
  | _ => .bad
end
end MP

namespace MP
open PySem PySem.Spec PyProof.Rows L2

/-! ### targets -/
abbrev GT := D → Ev → Option Ev
abbrev GTs := List D → Ev → Option Ev
def tGL (K : PySem.W.Frag) (ix : List Nat) (g : GT) : TG := fun v σ H Q => ∃ m Hr ρ d ρ', (∀ a xs, Hr a = some (.tup xs) → H a = some (.tup xs)) ∧ VR K m Hr v d ∧ ER K m Hr σ ρ ∧ ρ.length = σ.length ∧ g d ρ = some ρ' ∧
  ∀ σ', ER K m Hr σ' ρ' → ρ'.length = σ'.length → σ'.length = σ.length → (∀ j, j ∉ ix → σ'[j]? = σ[j]?) → Q σ' H
def tGLs (K : PySem.W.Frag) (ix : List Nat) (g : GTs) : TGs := fun vs σ H Q => ∃ m Hr ρ ds ρ', (∀ a xs, Hr a = some (.tup xs) → H a = some (.tup xs)) ∧ VRs K m Hr vs ds ∧ ER K m Hr σ ρ ∧ ρ.length = σ.length ∧ g ds ρ = some ρ' ∧
  ∀ σ', ER K m Hr σ' ρ' → ρ'.length = σ'.length → σ'.length = σ.length → (∀ j, j ∉ ix → σ'[j]? = σ[j]?) → Q σ' H
def PGL (X : Cx) (tg : Expr) (ix : List Nat) (g : GT) : Prop := PG X tg (tGL X.K ix g)
def PGsL (X : Cx) (tgs : List Expr) (ix : List Nat) (g : GTs) : Prop := PGs X tgs (tGLs X.K ix g)
theorem pg_imp {X : Cx} {tg : Expr} {t u : TG} (h : PG X tg t) (k : ∀ v σ H Q, u v σ H Q → t v σ H Q) : PG X tg u := ⟨fun pins s σ H v u' Q I r q => h.run pins s σ H v u' Q I r (k v σ H Q q)⟩
theorem pgs_imp {X : Cx} {tg : List Expr} {t u : TGs} (h : PGs X tg t) (k : ∀ v σ H Q, u v σ H Q → t v σ H Q) : PGs X tg u := ⟨fun pins s σ H v u' Q I r q => h.run pins s σ H v u' Q I r (k v σ H Q q)⟩
def gtName (i : Nat) : GT := fun d ρ => some (ρ.set i (some d))
def gtNil : GTs := fun ds ρ => match ds with
  | [] => some ρ
  | _ :: _ => none
def gtCons (g : GT) (gs : GTs) : GTs := fun ds ρ => match ds with
  | [] => none
  | d :: r => (g d ρ).bind fun ρ' => gs r ρ'
def gtTup (n : Nat) (gs : GTs) : GT := fun d ρ => match d with
  | .tup ds => if ds.length = n then gs ds ρ else none
  | _ => none
section
variable {X : Cx} {pos : Pos} {x : Str} {e : Expr} {es : List Expr}
theorem pgl_name {i : Nat} (hN : X.N.Nodup) (hi : X.N[i]? = some x := by rfl) (hx : Loc X.env.scope x := by first | exact .inl rfl | exact .inr rfl) (hf : X.fn x = true ∨ X.env.scope.names.lookup x = some .local := by first | exact .inl rfl | exact .inr rfl | assumption) : PGL X (.Name x pos) [i] (gtName i) :=
  pg_imp (pg_name hN hi hx hf) fun v σ H Q ⟨m, Hr, ρ, d, ρ', h1, h2, h3, h4, h5, k⟩ => by
    cases h5
    exact k _ (h3.set h2) (by simp [h4]) (by simp) fun j hj => by rw [List.getElem?_set_ne (fun z => hj (by simp [z]))]
theorem pgsl_nil : PGsL X [] [] gtNil := pgs_imp pgs_nil fun vs σ H Q ⟨m, Hr, ρ, ds, ρ', h1, h2, h3, h4, h5, k⟩ => by
  cases h2 with
  | nil => cases h5; exact ⟨rfl, k σ h3 h4 rfl fun _ _ => rfl⟩
  | cons _ _ => cases h5
theorem pgsl_cons {ix ix' : List Nat} {g : GT} {gs : GTs} (h1 : PGL X e ix g) (h2 : PGsL X es ix' gs) (hs : (assignEach (e :: es) X.env).map (·.2) = assign e X.env :: (assignEach es X.env).map (·.2) := by rfl) : PGsL X (e :: es) (ix ++ ix') (gtCons g gs) :=
  pgs_imp (pgs_cons h1 h2 hs) fun vs σ H Q ⟨m, Hr, ρ, ds, ρ', h1, h2, h3, h4, h5, k⟩ => by
    cases h2 with
    | nil => cases h5
    | @cons v d vs ds hv hr =>
      dsimp only [gtCons] at h5
      cases q : g d ρ with
      | none => rw [q] at h5; cases h5
      | some ρ1 =>
        rw [q] at h5
        exact ⟨v, vs, rfl, m, Hr, ρ, d, ρ1, h1, hv, h3, h4, q, fun σ1 e1 l1 l2 k1 => ⟨m, Hr, ρ1, ds, ρ', h1, hr, e1, l1, h5, fun σ2 e2 l3 l4 k2 => k σ2 e2 l3 (l4.trans l2) fun j hj => (k2 j fun z => hj (List.mem_append_right _ z)).trans (k1 j fun z => hj (List.mem_append_left _ z))⟩⟩
theorem pgl_tup {ix : List Nat} {gs : GTs} {n k : Nat} (hc : X.calm = true) (h : PGsL X es ix gs) (hn : (assignEach es X.env).length = n := by rfl) (hst : (assignEach es X.env).findIdx? (·.1) = none := by rfl) : PGL X (.Tuple es k pos) ix (gtTup n gs) :=
  pg_imp (pg_tup (n := n) hc h hn hst) fun v σ H Q ⟨m, Hr, ρ, d, ρ', h1, h2, h3, h4, h5, k⟩ => by
    cases h2 with
    | @tup a vs ds ha hr =>
      dsimp only [gtTup] at h5
      split at h5
      · rename_i hl
        exact ⟨a, vs, rfl, SqT.of (h1 _ _ ha), by rw [hr.length]; exact hl, m, Hr, ρ, ds, ρ', h1, hr, h3, h4, h5, k⟩
      · cases h5
    | _ => cases h5
end

/-! ### for -/
open Classical in
noncomputable def forG (ρ0 : Ev) (chk : Sto → Prop) (g : GT) (lb : LS) : List D → LS
  | [] => fun ρ S => if chk S then .ok (.nx ρ) S else .bad
  | d :: ds => fun ρ S => if chk S then (match g d ρ with
    | some ρ1 => (lb ρ1 S).bind (Fl.loop ρ0 (forG ρ0 chk g lb ds))
    | none => .bad) else .bad
noncomputable def lFor (li : LI) (g : GT) (lb : LS) : LS := fun ρ S => liftX ρ (li ρ S) fun it S1 => forG ρ it.chk g lb it.items ρ S1
theorem ys_vr {K : PySem.W.Frag} {m : List Addr} {H Hx H' : Hp} {x : V} {d : D} (mu : ∀ a ∈ m, Mut (H a)) (h : YS K m H H x H' d) : VR K m H' x d ∧ Ext m H m H' := by
  rcases h with ⟨rfl, h⟩ | ⟨T, ws, ds, hT, rfl, rfl, rfl, r⟩
  · exact ⟨h, Ext.refl⟩
  · exact ⟨.tup upd_same (r.ext (Ext.fresh hT) mu), Ext.fresh hT⟩
theorem psl_for {X : Cx} {tg iter : Expr} {body : List Stmt} {li : LI} {ix : List Nat} {g : GT} {lb : LS} {pos : Pos} (hp : PassesOwn (model X.prog X.w) X.A X.env X.xe) (hc : X.calm = true) (hi : PIL X tg iter li) (hg : PGL X tg ix g) (hb : PSsL X body lb)
    (hs : ∀ x, foldedSetIterable iter X.env x = pure x := by intro _; rfl) : PSL X (.For tg iter body [] pos) (lFor li g lb) := by
  refine ps_imp (ps_for hp hc hi hg hb hs) fun D σ H ⟨m0, ρ0, S0, x0, er0, hl0, h0⟩ => ?_
  have h0' : HS X D m0 H (liftX ρ0 (li ρ0 S0) fun it S1 => forG ρ0 it.chk g lb it.items ρ0 S1) := h0
  refine ⟨m0, ρ0, S0, x0, er0, HS.hope h0' er0 hl0 x0, fun it S1 q J H1 m1 e1 x1 yl => ?_⟩
  rw [q] at h0'
  have h1 : HS X D m1 H1 (forG ρ0 it.chk g lb it.items ρ0 S1) := HS.ext h0' e1
  refine ⟨fun i k σ H => k + i = it.items.length ∧ ∃ m ρ S, Ext m1 H1 m H ∧ SR X.K m H S ∧ ER X.K m H σ ρ ∧ ρ.length = σ.length ∧ HS X D m H (forG ρ0 it.chk g lb (it.items.drop i) ρ S), ⟨it.items.length, by simp, m1, ρ0, S1, Ext.refl, x1, er0.ext e1 x0.muts, hl0, by simpa using h1⟩, ?_⟩
  rintro i k σ H ⟨hk, m, ρ, S, e, x, er, hl, h⟩
  by_cases hi : i < it.items.length
  · have hd : it.items.drop i = it.items[i] :: it.items.drop (i + 1) := List.drop_eq_getElem_cons hi
    rw [hd] at h
    have hchk : it.chk S := by
      by_cases z : it.chk S
      · exact z
      · obtain ⟨fl, S', q⟩ := h.ok
        dsimp only [forG] at q
        rw [if_neg z] at q
        cases q
    dsimp only [forG] at h
    rw [if_pos hchk] at h
    cases hgd : g it.items[i] ρ with
    | none => rw [hgd] at h; obtain ⟨fl, S', q⟩ := h.ok; cases q
    | some ρ1 =>
      rw [hgd] at h
      dsimp only at h
      obtain ⟨y1, y2⟩ := yl m H S H e x hchk fun _ _ z => z
      obtain ⟨go, yy⟩ := y1 i it.items[i] (List.getElem?_eq_getElem hi)
      refine .inr ⟨go, fun σ' H' => ∃ m ρ S, Ext m1 H1 m H' ∧ SR X.K m H' S ∧ ER X.K m H' σ' ρ ∧ ρ.length = σ'.length ∧ HS X D m H' (forG ρ0 it.chk g lb (it.items.drop (i + 1)) ρ S), fun σ' H' z => ⟨k - 1, by omega, by omega, z⟩, fun v H' hy => ?_⟩
      obtain ⟨w, e2⟩ := ys_vr (Hx := H) x.muts (yy v H' hy)
      have x2 : SR X.K m H' S := by
        rcases yy v H' hy with ⟨rfl, _⟩ | ⟨T, ws, ds, hT, rfl, _⟩
        · exact x
        · exact x.fresh hT
      refine ⟨m, H', ρ, it.items[i], ρ1, fun _ _ z => z, w, er.ext e2 x.muts, hl, hgd, fun σ2 er2 hl2 _ _ => ⟨m, ρ1, S, x2, er2, hl2, ?_⟩⟩
      obtain ⟨fl, S', qok⟩ := (HS.ext h e2).ok
      obtain ⟨a, S3, qa, qb⟩ := bind_nbad qok
      -- the ways out, by the place where they lie
      have key : (lb ρ1 S).bind (Fl.loop ρ0 (forG ρ0 it.chk g lb (it.items.drop (i + 1)))) = Fl.loop ρ0 (forG ρ0 it.chk g lb (it.items.drop (i + 1))) a S3 := by rw [qa]; rfl
      have hA := HS.ext h e2
      rw [key] at hA
      refine ⟨⟨a, S3, qa⟩, fun ρ' S2 ee σ' H'' z => ?_, fun d S2 ee v H'' z => ?_, fun ρ' S2 ee σ' H'' z => ?_, fun ρ' S2 ee σ' H'' z => ?_, fun C fs ρ' S2 ee u s' z => ?_⟩
      · rw [qa] at ee
        cases ee
        obtain ⟨m', e', x', er', hl'⟩ := z.wk ρ0
        exact ⟨m', _, S3, (e.trans e2).trans e', x', er', hl', HS.ext hA e'⟩
      · rw [qa] at ee
        cases ee
        exact hA.rt d S3 rfl v H'' z
      · rw [qa] at ee
        cases ee
        exact hA.nx _ S3 rfl σ' H'' (z.wk ρ0)
      · rw [qa] at ee
        cases ee
        obtain ⟨m', e', x', er', hl'⟩ := z.wk ρ0
        exact ⟨m', _, S3, (e.trans e2).trans e', x', er', hl', HS.ext hA e'⟩
      · rw [qa] at ee
        cases ee
        exact hA.ex C fs ρ' S3 rfl u s' z
  · have hd : it.items.drop i = [] := List.drop_eq_nil_of_le (by omega)
    rw [hd] at h
    have hchk : it.chk S := by
      by_cases z : it.chk S
      · exact z
      · obtain ⟨fl, S', q⟩ := h.ok
        dsimp only [forG] at q
        rw [if_neg z] at q
        cases q
    dsimp only [forG] at h
    rw [if_pos hchk] at h
    obtain ⟨y1, y2⟩ := yl m H S H e x hchk fun _ _ z => z
    exact .inl ⟨y2 i (by omega), h.nx ρ S rfl σ H (sv_same x er hl)⟩
end MP

namespace MP
open PySem PySem.Spec PyProof.Rows L2

/-! ### a list that is being made is hidden -/
def hid (H : Hp) (p : Addr) : Hp := fun b => if b = p then none else H b
theorem hid_ne {H : Hp} {a p : Addr} (h : a ≠ p) : hid H p a = H a := if_neg h
theorem hid_same {H : Hp} {p : Addr} : hid H p p = none := if_pos rfl
section
variable {X : Cx} {pins : List (Addr × Obj)} {σ : L2.St} {H : Hp} {s : Shared} {p : Addr} {vs : List V}
theorem hide_inv (I : Inv X pins σ H s) (hD : H p = some (.lst vs)) : ∃ o, Inv X ((p, o) :: pins) σ (hid H p) s ∧ ∀ σ' s' H', Inv X ((p, o) :: pins) σ' H' s' → Inv X pins σ' (upd H' p (.lst vs)) s' ∧ H' p = none := by
  obtain ⟨hz, its, n, rv, ho⟩ : vs.length ≤ sizeLine ∧ ∃ (its : List Value) (n : Nat), Vals vs its ∧ s.heap.get? p = some { cls := .type "list", data := .seq its.toArray n } := I.hok p _ hD
  have ns : ∀ b o, X.s_0.heap.get? b = some o → X.H_0 b = none → b ∉ X.ex → b ≠ p := fun b o q n hx z => by
    have := I.base.free b o q n hx
    rw [z, hD] at this; cases this
  have nt : ∀ b u, H b = some u → (∀ xs, u ≠ .lst xs) → b ≠ p := fun b u q nl z => by
    rw [z, hD] at q
    cases q
    exact nl _ rfl
  have nloc : p ≠ X.env.locals := fun z => by
    have := I.free
    rw [← z, hD] at this; cases this
  have nfs : p ∉ X.fs := fun hb => by
    obtain ⟨_, o, ho', _⟩ := I.ok.funs.mem hb
    have := I.base.free p o ho' (I.ok.frf p hb) fun z => I.ok.exfs p z hb
    rw [hD] at this; cases this
  refine ⟨{ cls := .type "list", data := .seq its.toArray n }, ⟨I.ok, I.os, I.bare, ⟨I.base.keep, I.base.slot, fun b o q n hx => ?_, I.base.there, fun b xs q => ?_, fun b o u q => ?_, fun b ps q => ?_⟩, I.loc, I.cell, ?_, fun x c e => ?_, fun q hq => ?_, fun b u q => ?_, I.len⟩, fun σ' s' H' J => ?_⟩
  · rw [hid_ne (ns b o q n hx)]; exact I.base.free b o q n hx
  · rw [hid_ne (nt b _ (I.base.tups b xs q) fun _ z => nomatch z)]; exact I.base.tups b xs q
  · rw [hid_ne (nt b _ (I.base.frzs b o u q) fun _ z => nomatch z)]; exact I.base.frzs b o u q
  · obtain ⟨more, e⟩ := I.base.tbls b ps q
    exact ⟨more, by rw [hid_ne (nt b _ e fun _ z => nomatch z)]; exact e⟩
  · rw [hid_ne nloc.symm]; exact I.free
  · by_cases hc : c = p
    · rw [hc]; exact hid_same
    · rw [hid_ne hc]; exact I.freeC x c e
  · rcases List.mem_append.mp hq with z | z
    · obtain ⟨a1, a2, a3⟩ := I.pin q (List.mem_append_left _ z)
      refine ⟨a1, ?_, a3⟩
      by_cases hc : q.1 = p
      · rw [hc]; exact hid_same
      · rw [hid_ne hc]; exact a2
    · rcases List.mem_cons.mp z with z | z
      · subst z
        exact ⟨ho, hid_same, nloc, nfs, fun v z => nomatch z⟩
      · obtain ⟨a1, a2, a3⟩ := I.pin q (List.mem_append_right _ z)
        refine ⟨a1, ?_, a3⟩
        by_cases hc : q.1 = p
        · rw [hc]; exact hid_same
        · rw [hid_ne hc]; exact a2
  · have hb : b ≠ p := fun z => by rw [z, hid_same] at q; cases q
    rw [hid_ne hb] at q
    exact (I.hok b u q).stay (fun c v _ z => z) (fun c z => by rw [hid_ne (nt c _ z fun _ z => nomatch z)]; exact z) fun c xs z => by rw [hid_ne (nt c _ z fun _ z => nomatch z)]; exact z
  · obtain ⟨p1, p2, _⟩ := J.pin (p, _) (List.mem_append_right _ List.mem_cons_self)
    have n2 : ∀ b u, H' b = some u → b ≠ p := fun b u q z => by rw [z, p2] at q; cases q
    refine ⟨⟨J.ok, J.os, J.bare, ⟨J.base.keep, J.base.slot, fun b o q n hx => ?_, J.base.there, fun b xs q => ?_, fun b o u q => ?_, fun b ps q => ?_⟩, J.loc, J.cell, ?_, fun x c e => ?_, fun q hq => ?_, fun b u q => ?_, J.len⟩, p2⟩
    · rw [upd_ne (ns b o q n hx)]; exact J.base.free b o q n hx
    · rw [upd_ne (n2 b _ (J.base.tups b xs q))]; exact J.base.tups b xs q
    · rw [upd_ne (n2 b _ (J.base.frzs b o u q))]; exact J.base.frzs b o u q
    · obtain ⟨more, e⟩ := J.base.tbls b ps q
      exact ⟨more, by rw [upd_ne (n2 b _ e)]; exact e⟩
    · rw [upd_ne nloc.symm]; exact J.free
    · have : c ≠ p := fun z => by
        have := I.freeC x c e
        rw [z, hD] at this; cases this
      rw [upd_ne this]; exact J.freeC x c e
    · have hq' : q ∈ X.pn ++ (p, ({ cls := .type "list", data := .seq its.toArray n } : Obj)) :: pins := by
        rcases List.mem_append.mp hq with z | z
        · exact List.mem_append_left _ z
        · exact List.mem_append_right _ (List.mem_cons_of_mem _ z)
      obtain ⟨a1, a2, a3⟩ := J.pin q hq'
      refine ⟨a1, ?_, a3⟩
      have : q.1 ≠ p := fun z => by
        have := (I.pin q hq).2.1
        rw [z, hD] at this; cases this
      rw [upd_ne this]; exact a2
    · by_cases hb : b = p
      · subst hb
        rw [upd_same] at q
        cases q
        exact ⟨hz, its, n, rv, p1⟩
      · rw [upd_ne hb] at q
        exact (J.hok b u q).stay (fun c v _ z => z) (fun c z => by rw [upd_ne (n2 c _ z)]; exact z) fun c xs z => by rw [upd_ne (n2 c _ z)]; exact z
def tHide (t : TE) : TE := fun σ H Q => ∃ p vs, H p = some (.lst vs) ∧ t σ (hid H p) fun v H' => H' p = none → Q v (upd H' p (.lst vs))
def tHideT (t : TT) : TT := fun σ H Q => ∃ p vs, H p = some (.lst vs) ∧ t σ (hid H p) fun v H' => H' p = none → Q v (upd H' p (.lst vs))
theorem pe_hide {e : Expr} {t : TE} (h : PE X e t) : PE X e (tHide t) := by
  refine ⟨fun pins s σ H Q I ⟨p, vs, hp, q⟩ => ?_⟩
  obtain ⟨o, I1, back⟩ := hide_inv I hp
  exact thn (h.run _ s σ _ _ I1 q) fun u s' ⟨v, H', I', rv, q'⟩ => ⟨v, _, (back _ _ _ I').1, rv, q' (back _ _ _ I').2⟩
theorem pts_hide {es : List Expr} {t : TT} (h : PTs X es t) : PTs X es (tHideT t) := by
  refine ⟨fun pins s σ H Q I ⟨p, vs, hp, q⟩ => ?_⟩
  obtain ⟨o, I1, back⟩ := hide_inv I hp
  exact thn (h.run _ s σ _ _ I1 q) fun u s' ⟨H', I', q'⟩ => ⟨_, (back _ _ _ I').1, q' (back _ _ _ I').2⟩
end

/-! ### comprehensions -/
def noex {α : Type} (r : R α) : R α := match r with
  | .exc _ _ _ => .bad
  | r => r
def wipeE (ρ : Ev) : List Nat → Ev
  | [] => ρ
  | i :: r => (wipeE ρ r).set i none
open Classical in
noncomputable def compG (chk : Sto → Prop) (g : GT) (tt : LT) (te : LE) (ρ0 : Ev) : List D → Sto → R (List D)
  | [], S => if chk S then .ok [] S else .bad
  | d :: ds, S => if chk S then (match g d ρ0 with
    | some ρ1 => (noex (tt ρ1 S)).bind fun b S1 => if b = true then (noex (te ρ1 S1)).bind fun y S2 => (compG chk g tt te ρ0 ds S2).bind fun ys S3 => .ok (y :: ys) S3 else compG chk g tt te ρ0 ds S1
    | none => .bad) else .bad
noncomputable def compL (li : LI) (ix : List Nat) (g : GT) (tt : LT) (te : LE) : LA := fun ρ S => (li ρ S).bind fun it S1 => if it.items.length ≤ sizeLine then compG it.chk g tt te (wipeE ρ ix) it.items S1 else .bad
/-- the list as it is; a list of the store -/
noncomputable def lComp (li : LI) (ix : List Nat) (g : GT) (tt : LT) (te : LE) : LE := fun ρ S => (compL li ix g tt te ρ S).bind fun ys S2 => .ok (.lst ys) S2
noncomputable def lCompN (li : LI) (ix : List Nat) (g : GT) (tt : LT) (te : LE) : LE := fun ρ S => (compL li ix g tt te ρ S).bind fun ys S2 => .ok (.ref S2.length) (S2 ++ [.lst ys])
def tYesL : LT := fun _ S => .ok true S
theorem wipeE_some : ∀ {ix : List Nat} {ρ : Ev} {i : Nat} {d : D}, (wipeE ρ ix)[i]? = some (some d) → ρ[i]? = some (some d) ∧ i ∉ ix
  | [], _, _, _, h => ⟨h, by simp⟩
  | j :: r, ρ, i, d, h => by
    by_cases hj : j = i
    · subst hj
      simp only [wipeE] at h
      by_cases hl : j < (wipeE ρ r).length
      · rw [List.getElem?_set_self hl] at h; cases h
      · rw [List.getElem?_eq_none (by simp; omega)] at h; cases h
    · simp only [wipeE] at h
      rw [List.getElem?_set_ne hj] at h
      obtain ⟨a, b⟩ := wipeE_some h
      exact ⟨a, by simp [b]; exact fun z => hj z.symm⟩
theorem wipeE_length (ρ : Ev) : ∀ ix : List Nat, (wipeE ρ ix).length = ρ.length
  | [] => rfl
  | j :: r => by simp [wipeE, wipeE_length ρ r]
theorem ER.wipe {K : PySem.W.Frag} {m : List Addr} {H : Hp} {σ : L2.St} {ρ : Ev} (r : ER K m H σ ρ) (ix : List Nat) : ER K m H (L2.wipe σ ix) (wipeE ρ ix) := ⟨fun i d h => by
  obtain ⟨h1, h2⟩ := wipeE_some h
  obtain ⟨v, h3, h4⟩ := r.at_ i d h1
  exact ⟨v, by rw [wipe_out h2]; exact h3, h4⟩, by rw [wipeE_length, wipe_length]; exact r.len⟩
theorem wipe_eq {σ σ' : L2.St} {ix : List Nat} (hl : σ'.length = σ.length) (h : ∀ j, j ∉ ix → σ'[j]? = σ[j]?) : L2.wipe σ' ix = L2.wipe σ ix := by
  apply List.ext_getElem?
  intro i
  by_cases hi : i ∈ ix
  · have z : ∀ τ : L2.St, τ.length = σ.length → (L2.wipe τ ix)[i]? = if i < σ.length then some none else none := fun τ ht => by
      cases q : (L2.wipe τ ix)[i]? with
      | none =>
        rw [List.getElem?_eq_none_iff, wipe_length, ht] at q
        rw [if_neg (by omega)]
      | some o =>
        have h1 := (List.getElem?_eq_some_iff.mp q).1
        rw [wipe_length, ht] at h1
        rw [if_pos h1]
        cases o with
        | none => rfl
        | some v => exact absurd hi (wipe_some q).2
    rw [z σ' hl, z σ rfl]
  · rw [wipe_out hi, wipe_out hi]
    exact h i hi
end MP

namespace MP
open PySem PySem.Spec PyProof.Rows L2

section
variable {K : PySem.W.Frag} {m : List Addr} {H H' : Hp} {p : Addr} {o : HO} {S : Sto}
theorem hid_upd (h : H p = none) : hid (upd H p o) p = H := by
  funext b
  by_cases e : b = p
  · rw [e, hid_same, h]
  · rw [hid_ne e, upd_ne e]
theorem upd_hid (h : H p = some o) : upd (hid H p) p o = H := by
  funext b
  by_cases e : b = p
  · rw [e, upd_same, h]
  · rw [upd_ne e, hid_ne e]
theorem sup_hid : ∀ a o, hid H p a = some o → H a = some o := fun a o e => by
  have : a ≠ p := fun z => by rw [z, hid_same] at e; cases e
  rwa [hid_ne this] at e
end
/-- what lc_core asks, from the store's words -/
theorem comp_read {X : Cx} {li : LI} {ix : List Nat} {g : GT} {tt : LT} {te : LE} {σ : L2.St} {H : Hp} {m : List Addr} {ρ : Ev} {S : Sto} (x0 : SR X.K m H S) (er0 : ER X.K m H σ ρ) (hp : Hope X σ m H (compL li ix g tt te ρ S)) {Q : VK}
    (hQ : ∀ ys S2, compL li ix g tt te ρ S = .ok ys S2 → ∀ p vs m2 H2, Ext m H m2 H2 → SR X.K m2 H2 S2 → H2 p = none → VRs X.K m2 H2 vs ys → Q (.ref p) (upd H2 p (.lst vs))) :
    tLc (tIL X li) (tGL X.K ix g) (tHideT (tT0 X.K tt)) (tHide (tL0 X.K te)) ix σ H Q := by
  refine ⟨m, ρ, S, x0, er0, hope_seq hp, fun it S1 q1 J H1 m1 e1 x1 yl => ?_⟩
  unfold compL at hp hQ
  rw [q1, bind_ok] at hp hQ
  have hz := hope_if hp
  rw [if_pos hz] at hp hQ
  have er1 := (er0.ext e1 x0.muts).wipe ix
  intro D hD
  -- what holds ahead of turn i: so much is made, the rest gives the rest
  refine ⟨fun i k H => k + i = it.items.length ∧ ∃ (vs : List V) (acc : List MP.D) (m : List Addr) (S : Sto), H D = some (.lst vs) ∧ Ext m1 H1 m (hid H D) ∧ SR X.K m (hid H D) S ∧ VRs X.K m (hid H D) vs acc ∧ acc.length ≤ i ∧
      ∃ ys S2, compG it.chk g tt te (wipeE ρ ix) (it.items.drop i) S = .ok ys S2 ∧ compG it.chk g tt te (wipeE ρ ix) it.items S1 = .ok (acc ++ ys) S2, ⟨it.items.length, by simp, [], [], m1, S1, upd_same, ?_, ?_, .nil, Nat.zero_le _, ?_⟩, ?_⟩
  · rw [hid_upd hD]; exact Ext.refl
  · rw [hid_upd hD]; exact x1
  · cases q : compG it.chk g tt te (wipeE ρ ix) it.items S1 with
    | bad => rw [q] at hp; exact absurd rfl hp.1
    | ok ys S2 => exact ⟨ys, S2, by simpa using q, by simp⟩
    | exc C fs S2 =>
      exfalso
      have : ∀ (l : List MP.D) (S : Sto) C fs S2, compG it.chk g tt te (wipeE ρ ix) l S ≠ .exc C fs S2 := by
        intro l
        induction l with
        | nil =>
          intro S C fs S2 z
          dsimp only [compG] at z
          split at z <;> cases z
        | cons d ds ih =>
          intro S C fs S2 z
          dsimp only [compG] at z
          split at z
          · split at z
            · rename_i ρ1 _
              cases q : tt ρ1 S with
              | bad => rw [q] at z; cases z
              | exc _ _ _ => rw [q] at z; cases z
              | ok b S3 =>
                rw [q] at z
                dsimp only [noex, R.bind] at z
                split at z
                · cases q2 : te ρ1 S3 with
                  | bad => rw [q2] at z; cases z
                  | exc _ _ _ => rw [q2] at z; cases z
                  | ok y S4 =>
                    rw [q2] at z
                    dsimp only [noex, R.bind] at z
                    cases q3 : compG it.chk g tt te (wipeE ρ ix) ds S4 with
                    | bad => rw [q3] at z; cases z
                    | ok _ _ => rw [q3] at z; cases z
                    | exc C' fs' S' => exact ih _ _ _ _ q3
                · exact ih _ _ _ _ z
            · cases z
          · cases z
      exact this _ _ _ _ _ q
  · rintro i k H ⟨hk, vs, acc, m2, S2, hHD, e2, x2, r2, hacc, ys, S3, c1, c2⟩
    have er2 : ER X.K m2 (hid H D) (L2.wipe σ ix) (wipeE ρ ix) := er1.ext e2 x1.muts
    by_cases hi : i < it.items.length
    · have hd : it.items.drop i = it.items[i] :: it.items.drop (i + 1) := List.drop_eq_getElem_cons hi
      rw [hd] at c1
      dsimp only [compG] at c1
      split at c1
      · rename_i hchk
        obtain ⟨y1, _⟩ := yl m2 (hid H D) S2 H e2 x2 hchk sup_hid
        obtain ⟨go, yy⟩ := y1 i it.items[i] (List.getElem?_eq_getElem hi)
        split at c1
        · rename_i ρ1 hg1
          refine .inr ⟨go, fun H' => (k - 1) + (i + 1) = it.items.length ∧ ∃ (vs : List V) (acc : List MP.D) (m : List Addr) (S : Sto), H' D = some (.lst vs) ∧ Ext m1 H1 m (hid H' D) ∧ SR X.K m (hid H' D) S ∧ VRs X.K m (hid H' D) vs acc ∧ acc.length ≤ i + 1 ∧
            ∃ ys S2, compG it.chk g tt te (wipeE ρ ix) (it.items.drop (i + 1)) S = .ok ys S2 ∧ compG it.chk g tt te (wipeE ρ ix) it.items S1 = .ok (acc ++ ys) S2, fun H' z => ⟨k - 1, by omega, z⟩, fun v H' hy => ?_⟩
          -- the turn's heap, D hidden
          obtain ⟨w, e3, hD', x3, hall⟩ : VR X.K m2 (hid H' D) v it.items[i] ∧ Ext m2 (hid H D) m2 (hid H' D) ∧ H' D = some (.lst vs) ∧ SR X.K m2 (hid H' D) S2 ∧ ∀ a xs, hid H' D a = some (.tup xs) → H' a = some (.tup xs) := by
            rcases yy v H' hy with ⟨rfl, w⟩ | ⟨T, ws, ds, hT, rfl, rfl, ed, rw'⟩
            · exact ⟨w, Ext.refl, hHD, x2, fun a xs z => sup_hid a _ z⟩
            · have hTD : T ≠ D := fun z => by rw [z, hHD] at hT; cases hT
              have hTh : hid H D T = none := by rw [hid_ne hTD]; exact hT
              have eh : hid (upd H T (.tup ws)) D = upd (hid H D) T (.tup ws) := by
                funext b
                by_cases hb : b = D
                · rw [hb, hid_same, upd_ne hTD.symm, hid_same]
                · rw [hid_ne hb]
                  by_cases hb2 : b = T
                  · rw [hb2, upd_same, upd_same]
                  · rw [upd_ne hb2, upd_ne hb2, hid_ne hb]
              rw [eh]
              refine ⟨?_, Ext.fresh hTh, by rw [upd_ne hTD.symm]; exact hHD, x2.fresh hTh, fun a xs z => ?_⟩
              · rw [ed]
                exact .tup upd_same (rw'.ext (Ext.fresh hTh) x2.muts)
              · rw [← eh] at z
                exact sup_hid a _ z
          refine ⟨m2, hid H' D, wipeE ρ ix, it.items[i], ρ1, hall, w, er2.ext e3 x2.muts, (er2.len), hg1, fun σ2 er3 hl2 hl3 hj => ⟨wipe_eq hl3 (fun j hjx => ?_) |>.trans ?_, ?_⟩⟩
          · exact hj j hjx
          · -- wiped twice
            exact wipe_eq (wipe_length σ ix) fun j hj => wipe_out hj
          · refine ⟨D, vs, hD', m2, ρ1, S2, x3, er3, ?_⟩
            cases qt : tt ρ1 S2 with
            | bad => rw [qt] at c1; cases c1
            | exc _ _ _ => rw [qt] at c1; cases c1
            | ok b S4 =>
              rw [qt] at c1
              dsimp only [noex, R.bind] at c1
              refine ⟨b, S4, rfl, fun H4 m4 e4 x4 hn4 => ?_⟩
              have r4 := (r2.ext e3 x2.muts).ext e4 x3.muts
              cases b with
              | true =>
                rw [if_pos rfl] at c1
                refine iteT ?_
                refine ⟨D, vs, upd_same, m4, ρ1, S4, by rw [hid_upd hn4]; exact x4, by rw [hid_upd hn4]; exact er3.ext e4 x3.muts, ?_⟩
                cases qe : te ρ1 S4 with
                | bad => rw [qe] at c1; cases c1
                | exc _ _ _ => rw [qe] at c1; cases c1
                | ok y S5 =>
                  rw [qe] at c1
                  dsimp only [noex, R.bind] at c1
                  refine ⟨y, S5, rfl, fun v5 H5 qv5 hn5 => ?_⟩
                  rw [hid_upd hn4] at qv5
                  obtain ⟨m5, e5, x5, w5⟩ := qv5
                  have r5 := r4.ext e5 x4.muts
                  refine ⟨vs, upd_same, ?_, by omega, vs ++ [v5], acc ++ [y], m5, S5, upd_same, ?_, ?_, ?_, by simp; omega, ?_⟩
                  · rw [r5.length]
                    exact Nat.lt_of_le_of_lt hacc (Nat.lt_of_lt_of_le hi hz)
                  · rw [upd_upd, hid_upd hn5]; exact ((e2.trans e3).trans e4).trans e5
                  · rw [upd_upd, hid_upd hn5]; exact x5
                  · rw [upd_upd, hid_upd hn5]; exact r5.append (.cons w5 .nil)
                  · cases qr : compG it.chk g tt te (wipeE ρ ix) (it.items.drop (i + 1)) S5 with
                    | bad => rw [qr] at c1; cases c1
                    | exc _ _ _ => rw [qr] at c1; cases c1
                    | ok zs S6 =>
                      rw [qr] at c1
                      cases c1
                      exact ⟨zs, _, rfl, by rw [c2]; simp⟩
              | false =>
                rw [if_neg Bool.false_ne_true] at c1
                refine iteF ?_
                exact ⟨by omega, vs, acc, m4, S4, upd_same, by rw [hid_upd hn4]; exact (e2.trans e3).trans e4, by rw [hid_upd hn4]; exact x4, by rw [hid_upd hn4]; exact r4, by omega, ys, S3, c1, c2⟩
        · cases c1
      · cases c1
    · have hd : it.items.drop i = [] := List.drop_eq_nil_of_le (by omega)
      rw [hd] at c1
      dsimp only [compG] at c1
      split at c1
      · rename_i hchk
        cases c1
        obtain ⟨_, y2⟩ := yl m2 (hid H D) S2 H e2 x2 hchk sup_hid
        refine .inl ⟨y2 i (by omega), ?_⟩
        have := hQ _ _ c2 D vs m2 (hid H D) (e1.trans e2) x2 hid_same (by simpa using r2)
        rw [upd_hid hHD] at this
        exact this
      · cases c1
section
variable {X : Cx} {elt tg iter : Expr} {ifs : List Expr} {scope : Scope} {own : List (Str × Nat)} {pos : Pos} {li : LI} {g : GT} {tt : LT} {te : LE}
/-- the tests of a comprehension -/
structure PTsL (X : Cx) (ifs : List Expr) (l : LT) : Prop where
  pts : PTs X ifs (tT0 X.K l)
theorem ptsl_nil : PTsL X [] tYesL := ⟨⟨fun pins s σ H Q I ⟨m, ρ, S, x, er, b, S', q, k⟩ => by
  cases q
  exact wpAny_tests_nil ⟨H, I, k H m Ext.refl x⟩⟩⟩
theorem ptsl_one {c : Expr} {t : LT} (h : PTL X c t) : PTsL X [c] t := ⟨pts_one h.pt⟩
theorem pel_lc (hc : X.calm = true) (hN : X.N.Nodup) (hi : PIL X tg iter li) (ok : BlkOk X.N X.env.scope scope own)
    (hg : ∀ (s : Shared) (H : Hp) (C : Addr) (cl : List (Str × Addr)) (fp : List Addr), PGL (X.blk s H scope (compEnvC scope cl C X.env) fp) tg (own.map (·.2)) g) (ht : ∀ (s : Shared) (H : Hp) (C : Addr) (cl : List (Str × Addr)) (fp : List Addr), PTsL (X.blk s H scope (compEnvC scope cl C X.env) fp) ifs tt)
    (he : ∀ (s : Shared) (H : Hp) (C : Addr) (cl : List (Str × Addr)) (fp : List Addr), PEL (X.blk s H scope (compEnvC scope cl C X.env) fp) elt te) (hs : ∀ x, foldedSetIterable iter X.env x = pure x := by intro _; rfl) :
    PEL X (.ListComp elt [⟨tg, iter, ifs, 0⟩] scope pos) (lComp li (own.map (·.2)) g tt te) :=
  .of_pe (pe_lc (g := tGL X.K (own.map fun q : Str × Nat => q.2) g) (tt := tHideT (tT0 X.K tt)) (te := tHide (tL0 X.K te)) hc hN hi ok hg (fun s H C cl fp => pts_hide (ht s H C cl fp).pts) (fun s H C cl fp => pe_hide (he s H C cl fp).pe) hs) fun σ H m ρ S x er hp =>
    comp_read x er (hope_seq hp) fun ys S2 q p vs m2 H2 e x2 hn r => ⟨.lst ys, S2, by unfold lComp; rw [q]; rfl, m2, e.trans (Ext.fresh hn), x2.fresh hn, vr_newLst x2 hn r⟩
/-- name = [..], the name a local -/
theorem psl_setLc {i : Nat} {y : Str} {py spos : Pos} {lv : LE} (hN : X.N.Nodup) (hyl : X.env.scope.names.lookup y = some .local) (hsw : swapsWith (.ListComp elt [⟨tg, iter, ifs, 0⟩] scope pos) (some (.Name y py)) spos.line X.env = pure true) (hc : X.calm = true) (hi : PIL X tg iter li) (ok : BlkOk X.N X.env.scope scope own)
    (hlv : lv = lComp li (own.map (·.2)) g tt te ∨ lv = lCompN li (own.map (·.2)) g tt te)
    (hg : ∀ (s : Shared) (H : Hp) (C : Addr) (cl : List (Str × Addr)) (fp : List Addr), PGL (X.blk s H scope (compEnvC scope cl C X.env) fp) tg (own.map (·.2)) g) (ht : ∀ (s : Shared) (H : Hp) (C : Addr) (cl : List (Str × Addr)) (fp : List Addr), PTsL (X.blk s H scope (compEnvC scope cl C X.env) fp) ifs tt)
    (he : ∀ (s : Shared) (H : Hp) (C : Addr) (cl : List (Str × Addr)) (fp : List Addr), PEL (X.blk s H scope (compEnvC scope cl C X.env) fp) elt te) (hy : X.N[i]? = some y := by rfl) (hs : ∀ x, foldedSetIterable iter X.env x = pure x := by intro _; rfl) :
    PSL X (.Assign [.Name y py] (.ListComp elt [⟨tg, iter, ifs, 0⟩] scope pos) spos) (lSet i lv) := by
  refine ps_imp (ps_setLc (g := tGL X.K (own.map fun q : Str × Nat => q.2) g) (tt := tHideT (tT0 X.K tt)) (te := tHide (tL0 X.K te)) hc hN hy hyl hsw hi ok hg (fun s H C cl fp => pts_hide (ht s H C cl fp).pts) (fun s H C cl fp => pe_hide (he s H C cl fp).pe) hs) fun D σ H ⟨m, ρ, S, x, er, hl, h⟩ => ?_
  have h' : HS X D m H (liftX ρ (lv ρ S) fun d S1 => .ok (.nx (ρ.set i (some d))) S1) := h
  have hp := HS.hope h' er hl x
  have hpc : Hope X σ m H (compL li (own.map (·.2)) g tt te ρ S) := by
    rcases hlv with z | z <;> (rw [z] at hp; exact hope_seq hp)
  refine comp_read x er hpc fun ys S2 q p vs m2 H2 e x2 hn r => ?_
  rcases hlv with z | z
  · have q' : lv ρ S = .ok (.lst ys) S2 := by rw [z]; unfold lComp; rw [q]; rfl
    rw [q'] at h'
    have e' := e.trans (Ext.fresh (o := .lst vs) hn)
    exact h'.nx _ _ rfl _ _ ⟨m2, e', x2.fresh hn, (er.ext e' x.muts).set (vr_newLst x2 hn r), by simp [hl]⟩
  · have q' : lv ρ S = .ok (.ref S2.length) (S2 ++ [.lst ys]) := by rw [z]; unfold lCompN; rw [q]; rfl
    rw [q'] at h'
    obtain ⟨m3, e3, x3, w3⟩ := qv_newL x2 hn r
    have e' := e.trans e3
    exact h'.nx _ _ rfl _ _ ⟨m3, e', x3, (er.ext e' x.muts).set w3, by simp [hl]⟩
end
end MP

namespace MP
open PySem PySem.Spec PyProof.Rows L2

section
variable {K : PySem.W.Frag} {m : List Addr} {H : Hp} {S : Sto}
theorem SR.write (x : SR K m H S) {i : Nat} {a : Addr} {o' : HO} {ob' : O} (hi : m[i]? = some a) (r : Ext m H m (upd H a o') → OR K m (upd H a o') a ob') : Ext m H m (upd H a o') ∧ SR K m (upd H a o') (S.set i ob') := by
  have hm : a ∈ m := List.mem_iff_getElem?.mpr ⟨i, hi⟩
  have e : Ext m H m (upd H a o') := ⟨⟨[], by simp⟩, fun b h => .inl h, fun b u n q => by rw [upd_ne (fun z : b = a => n (by rw [z]; exact hm))]; exact q⟩
  refine ⟨e, x.nd, by simp [x.len], fun j b u h1 h2 => ?_⟩
  by_cases hj : i = j
  · subst hj
    rw [hi] at h1
    cases h1
    have hl : i < S.length := x.len ▸ (List.getElem?_eq_some_iff.mp hi).1
    rw [List.getElem?_set_self hl] at h2
    cases h2
    exact r e
  · rw [List.getElem?_set_ne hj] at h2
    exact (x.at_ j b u h1 h2).ext e x.muts (upd_ne fun z => hj (nodup_get x.nd hi (z ▸ h1)))
theorem VR.ref_at (x : SR K m H S) {v : V} {i : Nat} {ob : O} (r : VR K m H v (.ref i)) (q : S[i]? = some ob) : ∃ a, v = .ref a ∧ m[i]? = some a ∧ OR K m H a ob := by
  cases r with
  | @ref i a h => exact ⟨a, rfl, h, x.at_ i a ob h q⟩
end
def putD (f : Str) (v : D) : List (Str × D) → List (Str × D)
  | [] => [(f, v)]
  | (g, x) :: r => if g = f then (g, v) :: r else (g, x) :: putD f v r
theorem VFs.put {K : PySem.W.Frag} {m : List Addr} {H : Hp} {f : Str} {v : V} {d : D} (h : VR K m H v d) : ∀ {fs : List (Str × V)} {gs : List (Str × D)}, VFs K m H fs gs → VFs K m H (putF f v fs) (putD f d gs)
  | _, _, .nil => .cons h .nil
  | _, _, @VFs.cons _ _ _ g w e vs ds q r => by
    unfold putF putD
    by_cases z : g = f
    · rw [if_pos z, if_pos z]; exact .cons h r
    · rw [if_neg z, if_neg z]; exact .cons q (VFs.put h r)
theorem VFs.length {K : PySem.W.Frag} {m : List Addr} {H : Hp} {fs : List (Str × V)} {gs : List (Str × D)} : VFs K m H fs gs → fs.length = gs.length
  | .nil => rfl
  | .cons _ r => by simp [r.length]
section
variable {X : Cx} {e o i c : Expr} {le lo li : LE} {t : LA} {pos pos' : Pos} {x y f : Str} {C : Addr}
/-- targets = e -/
def lAsg (g : GT) (le : LE) : LS := fun ρ S => liftX ρ (le ρ S) fun d S1 => match g d ρ with
  | some ρ1 => .ok (.nx ρ1) S1
  | none => .bad
theorem psl_asg {tg : Expr} {ix : List Nat} {g : GT} (he : PEL X e le) (hg : PGL X tg ix g) (hs : swapsWithSole [tg] e pos.line X.env = pure false := by rfl) (hw : swappedStores [tg] e X.env = pure none := by rfl)
    (h1 : (assignEach [tg] X.env).map (·.2) = [assign tg X.env] := by rfl) : PSL X (.Assign [tg] e pos) (lAsg g le) := by
  refine ⟨fun pins s σ H D I ⟨m, ρ, S, x, er, hl, h⟩ => ?_⟩
  refine wpAny_Assign_stores (expr_in he I x er hl h fun d S1 q v u s1 H1 m1 I1 rv e1 x1 w er1 h2 => ?_) hs hw
  rw [h1]
  cases hgd : g d ρ with
  | none => rw [hgd] at h2; obtain ⟨fl, S', q⟩ := h2.ok; cases q
  | some ρ1 =>
    rw [hgd] at h2
    exact thn (hg.run pins s1 σ H1 v u (fun σ' H' => D.nx σ' H') I1 rv ⟨m1, H1, ρ, d, ρ1, fun _ _ z => z, w, er1, hl, hgd, fun σ' er' hl' _ _ => h2.nx ρ1 S1 rfl σ' H1 (sv_same x1 er' hl')⟩) fun _ s2 q => q
/-- a, b = e1, e2 with plain local names -/
def tAX (X : Cx) (t : LA) : TA := fun σ H Q => ∃ m ρ S, SR X.K m H S ∧ ER X.K m H σ ρ ∧ Hope X σ m H (t ρ S) ∧ ∀ ds S', t ρ S = .ok ds S' → ∀ vs H' m', Ext m H m' H' → SR X.K m' H' S' → VRs X.K m' H' vs ds → Q vs H'
theorem PAL.pa {es : List Expr} (h : PAL X es t) : PA X es (tAX X t) := ⟨fun pos pins s σ H Q I ⟨m, ρ, S, x, er, hp, k⟩ =>
  thn (h.run pos pins s σ H m ρ S I x er hp) fun us s' ⟨ds, S', vs, H', m', q, I', rv, e', x', w⟩ => ⟨vs, H', I', rv, k ds S' q vs H' m' e' x' w⟩⟩
def lPar (i j : Nat) (t : LA) : LS := fun ρ S => liftX ρ (t ρ S) fun ds S1 => match ds with
  | [a, b] => .ok (.nx ((ρ.set i (some a)).set j (some b))) S1
  | _ => .bad
theorem psl_par {i j : Nat} {a b : Expr} {px py pt : Pos} {kt k2 : Nat} {pt2 : Pos} (hc : X.calm = true) (hN : X.N.Nodup) (ha : PAL X [a, b] t) (hi : X.N[i]? = some x := by rfl) (hj : X.N[j]? = some y := by rfl) (hij : i ≠ j := by decide)
    (hx : X.env.scope.names.lookup x = some .local := by rfl) (hy : X.env.scope.names.lookup y = some .local := by rfl)
    (hw : swappedStores [.Tuple [.Name x px, .Name y py] kt pt] (.Tuple [a, b] k2 pt2) X.env = pure (some [x, y]) := by rfl)
    (hs : swapsWithSole [.Tuple [.Name x px, .Name y py] kt pt] (.Tuple [a, b] k2 pt2) pos.line X.env = pure false := by rfl) :
    PSL X (.Assign [.Tuple [.Name x px, .Name y py] kt pt] (.Tuple [a, b] k2 pt2) pos) (lPar i j t) := by
  refine ps_imp (ps_par hc hN hi hj hij hx hy ha.pa hw hs) fun D σ H ⟨m, ρ, S, x0, er, hl, h⟩ => ?_
  have h' : HS X D m H (liftX ρ (t ρ S) fun ds S1 => match ds with
    | [a, b] => .ok (.nx ((ρ.set i (some a)).set j (some b))) S1
    | _ => .bad) := h
  refine ⟨m, ρ, S, x0, er, HS.hope h' er hl x0, fun ds S1 q vs H1 m1 e1 x1 w => ?_⟩
  rw [q] at h'
  have h2 := HS.ext h' e1
  cases w with
  | nil => obtain ⟨fl, S', q⟩ := h2.ok; cases q
  | cons w1 w2 =>
    cases w2 with
    | nil => obtain ⟨fl, S', q⟩ := h2.ok; cases q
    | cons w2 w3 =>
      cases w3 with
      | cons _ _ => obtain ⟨fl, S', q⟩ := h2.ok; cases q
      | nil =>
        have er1 := er.ext e1 x0.muts
        exact ⟨_, _, rfl, h2.nx _ S1 rfl _ H1 (sv_same x1 ((er1.set w1).set w2) (by simp [hl]))⟩
/-- o.f = e, o an object of the store -/
def stFld (C : Addr) (f : Str) (S : Sto) (r d : D) : Option Sto := match r with
  | .ref i => match S[i]? with
    | some (.ins C' fs) => if C' = C ∧ fs.length < 1000 then some (S.set i (.ins C (putD f d fs))) else none
    | _ => none
  | _ => none
def liftS (o : Option Sto) (ρ : Ev) : R Fl := match o with
  | some S => .ok (.nx ρ) S
  | none => .bad
def lStF (C : Addr) (f : Str) (lo le : LE) : LS := fun ρ S => liftX ρ (le ρ S) fun d S1 => liftX ρ (lo ρ S1) fun r S2 => liftS (stFld C f S2 r d) ρ
theorem psl_fld (cl : Cls X.K C) (na : NoAttr X.K C f) (ho : PEL X o lo) (he : PEL X e le) (hs : swapsWith e (some (.Attribute o f pos')) pos.line X.env = pure false := by rfl) : PSL X (.Assign [.Attribute o f pos'] e pos) (lStF C f lo le) := by
  refine ⟨fun pins s σ H D I ⟨m, ρ, S, x, er, hl, h⟩ => ?_⟩
  refine plainObj_wpAny_Assign_Attribute (expr_in he I x er hl h fun d S1 q v u s1 H1 m1 I1 rv e1 x1 w er1 h1 => expr_in ho I1 x1 er1 hl h1 fun r S2 q2 v2 u2 s2 H2 m2 I2 rv2 e2 x2 w2 er2 h2 => ?_) hs
  cases q3 : stFld C f S2 r d with
  | none => rw [q3] at h2; obtain ⟨fl, S', q⟩ := h2.ok; cases q
  | some S3 =>
    rw [q3] at h2
    unfold stFld at q3
    split at q3
    · rename_i i
      split at q3
      · rename_i C' fs q4
        split at q3
        · rename_i hz
          obtain ⟨hC, hz⟩ := hz
          subst hC
          cases q3
          obtain ⟨a, rfl, ha, orr⟩ := VR.ref_at x2 w2 q4
          obtain rfl : u2 = Value.ref a := rv2
          cases orr with
          | @ins _ dx fs' gs hh rr =>
            refine setattr_ok I2 hh cl na (by rw [rr.length]; exact hz) rv fun s3 I3 => ?_
            obtain ⟨e3, x3⟩ := x2.write (o' := .ins C' dx (putF f v fs')) (ob' := .ins C' (putD f d fs)) ha fun e => .ins upd_same ((rr.put (w.ext e2 x1.muts)).ext e x2.muts)
            exact ⟨σ, _, I3, h2.nx ρ _ rfl σ _ ⟨m2, e3, x3, er2.ext e3 x2.muts, hl⟩⟩
        · cases q3
      · cases q3
    · cases q3
/-- o[i] = e -/
structure PSetL (X : Cx) (g : Sto → D → D → D → Option Sto) : Prop where
  run : ∀ (pins : List (Addr × Obj)) (s : Shared) (σ : L2.St) (H : Hp) (m : List Addr) (S S' : Sto) (o i v : V) (d1 d2 d3 : D) (ov iv u : Value), Inv X pins σ H s → SR X.K m H S → VR X.K m H o d1 → VR X.K m H i d2 → VR X.K m H v d3 → RelV o ov → RelV i iv → RelV v u → g S d1 d2 d3 = some S' →
    wpAny (model X.prog X.w) X.A (setItem ov iv u) (fun _ s' => ∃ H' m', Inv X pins σ H' s' ∧ Ext m H m' H' ∧ SR X.K m' H' S') X.xe s
def stSeq (S : Sto) (r i d : D) : Option Sto := match r, i with
  | .ref j, .int k => match S[j]? with
    | some (.lst xs) => (ixN xs.length k).map fun n => S.set j (.lst (xs.set n d))
    | _ => none
  | _, _ => none
theorem psetl_seq : PSetL X stSeq := ⟨fun pins s σ H m S S' o i v d1 d2 d3 ov iv u I x r1 r2 r3 e1 e2 e3 q => by
  unfold stSeq at q
  split at q
  · rename_i j k
    split at q
    · rename_i xs q1
      cases q2 : ixN xs.length k with
      | none => rw [q2] at q; cases q
      | some n =>
        rw [q2] at q
        cases q
        obtain ⟨a, rfl, ha, orr⟩ := VR.ref_at x r1 q1
        cases r2
        cases orr with
        | @lst vs _ hh rr =>
          obtain ⟨z1, z2⟩ := x.write (o' := .lst (vs.set n v)) (ob' := .lst (xs.set n d3)) ha fun e => .lst upd_same ((rr.set r3 n).ext e x.muts)
          exact thn (set_list pins s σ H _ _ v ov iv u (fun H' => H' = upd H a (.lst (vs.set n v))) I e1 e2 e3 ⟨a, vs, k, n, rfl, rfl, hh, by rw [rr.length]; exact q2, rfl⟩) fun _ s' ⟨H', I', eH⟩ => by
            subst eH
            exact ⟨_, m, I', z1, z2⟩
    · cases q
  · cases q⟩
def lStS (g : Sto → D → D → D → Option Sto) (lo li le : LE) : LS := fun ρ S => liftX ρ (le ρ S) fun d S1 => liftX ρ (lo ρ S1) fun r S2 => liftX ρ (li ρ S2) fun k S3 => liftS (g S3 r k d) ρ
theorem psl_sub {g : Sto → D → D → D → Option Sto} (hg : PSetL X g) (ho : PEL X o lo) (hi : PEL X i li) (he : PEL X e le) (hs : swapsWith e (some (.Subscript o i pos')) pos.line X.env = pure false := by rfl) : PSL X (.Assign [.Subscript o i pos'] e pos) (lStS g lo li le) := by
  refine ⟨fun pins s σ H D I ⟨m, ρ, S, x, er, hl, h⟩ => ?_⟩
  refine wpAny_Assign_Subscript (expr_in he I x er hl h fun d S1 q v u s1 H1 m1 I1 rv e1 x1 w er1 h1 => expr_in ho I1 x1 er1 hl h1 fun r S2 q2 v2 u2 s2 H2 m2 I2 rv2 e2 x2 w2 er2 h2 => expr_in hi I2 x2 er2 hl h2 fun k S3 q3 v3 u3 s3 H3 m3 I3 rv3 e3 x3 w3 er3 h3 => ?_) hs
  cases q4 : g S3 r k d with
  | none => rw [q4] at h3; obtain ⟨fl, S', q⟩ := h3.ok; cases q
  | some S4 =>
    rw [q4] at h3
    exact thn (hg.run pins s3 σ H3 m3 S3 S4 v2 v3 v r k d u2 u3 u I3 x3 (w2.ext e3 x2.muts) w3 ((w.ext e2 x1.muts).ext e3 x2.muts) rv2 rv3 rv q4) fun _ s4 ⟨H4, m4, I4, e4, x4⟩ => ⟨σ, H4, I4, h3.nx ρ S4 rfl σ H4 ⟨m4, e4, x4, er3.ext e4 x3.muts, hl⟩⟩
/-- name op= e -/
def lAug (i : Nat) (g : G2) (le : LE) : LS := fun ρ S => match ρ[i]? with
  | some (some d0) => liftX ρ (le ρ S) fun d S1 => match g S1 d0 d with
    | some r => .ok (.nx (ρ.set i (some r))) S1
    | none => .bad
  | _ => .bad
end

/-! ### a def keeps its promise -/
def fin : R Fl → R D
  | .ok (.nx _) S => .ok .non S
  | .ok (.rt d) S => .ok d S
  | .ok (.ex C fs _) S => .exc C fs S
  | _ => .bad
def bodyF (n : Nat) (lb : LS) : F := fun ds S => fin (lb (ds.map some ++ List.replicate (n - ds.length) none) S)
theorem er_start {K : PySem.W.Frag} {m : List Addr} {H : Hp} {vs : List V} {ds : List D} {n : Nat} (r : VRs K m H vs ds) : ER K m H (vs.map some ++ List.replicate (n - vs.length) none) (ds.map some ++ List.replicate (n - ds.length) none) := by
  refine ⟨fun i d h => ?_, by simp [r.length]⟩
  have hi : i < ds.length := by
    by_cases z : i < ds.length
    · exact z
    · rw [List.getElem?_append_right (by simp; omega)] at h
      obtain ⟨_, h2⟩ := List.getElem?_eq_some_iff.mp h
      simp at h2
  rw [List.getElem?_append_left (by simpa using hi), List.getElem?_map] at h
  cases q : ds[i]? with
  | none => rw [q] at h; cases h
  | some d' =>
    rw [q] at h
    cases h
    obtain ⟨v, h1, h2⟩ := r.getr q
    refine ⟨v, ?_, h2⟩
    rw [List.getElem?_append_left (by rw [List.length_map, r.length]; exact hi), List.getElem?_map, h1]
    rfl
/-- as L2.fn_of, with the guards -/
theorem fnG_of {CX : CXT} {P : Program} {w : World} {K : PySem.W.Frag} {mg : Str → Option Value} {base : Heap} {k : Nat} {f : Addr} {name qual : Str} {params : Arguments} {body : List Stmt} {scope : Scope} {dV kV doc pm cdv ct oc : Value} {an od : Option Addr}
    {osl : Array (Option Value)} {N ps : List Str} {sp : Sp} (lk : K.lookup f = some ⟨oc, od, .func (PySem.W.fnOf name qual params body scope dV kV doc pm an cdv ct), osl⟩) (hcd : PySem.W.codeIn K cdv qual = true) (S : FnScope N ps scope)
    (len : ∀ vs H Q E, sp vs H Q E → vs.length = ps.length)
    (hbody : ∀ (A : Around) (outer : List Env) (s : Shared) (H : Hp) (vs : List V) (Q : VK) (E : XK), MP.Room k (A.deeper (envOfC qual scope s.heap.objs.size f cdv)) → sp vs H Q E →
      ∃ t, PSs (cxOf CX P w K mg base N qual scope f cdv A outer s H E) body t ∧ t { nx := fun _ H' => Q .non H', rt := Q } (start N vs) H) :
    MP.FnOk P w K mg base CX (k + 1) f (PySem.W.fnOf name qual params body scope dV kV doc pm an cdv ct) ps sp := by
  refine ⟨len, fun A outer s H args us vs Q E hr e0 hb r hsp => ?_⟩
  have hl := len _ _ _ _ hsp
  have KX : K.In s.heap := e0.mod.kin.keeps fun b o e => (e0.bs b o e).1
  have lim : s.heap.NoLimit := e0.mod.nolimit.keeps fun b o e => (e0.bs b o e).1
  have hkind : ∀ y ∈ ps.zip us, scope.names.lookup y.1 = some .local ∨ (scope.names.lookup y.1 = some .cell ∧ ((cellsFrom (s.heap.objs.size + 1) scope.names []).lookup y.1).isSome = true) := fun ⟨n, v⟩ hy => by
    rcases S.par n (List.of_mem_zip hy).1 with q | q
    · exact .inl q
    · exact .inr ⟨q, PySem.W.cellsFrom_some _ _ _ (.inl q)⟩
  refine codeAny_call_function hr.depth (KX _ _ lk) rfl S.co S.gen rfl (PySem.W.codeRec_of KX hcd) (hb _ _ _ _ ?_)
  refine wpAny_newFunctionEnv_cells S.kind hkind fun env he s1 x => ?_
  subst he
  refine ⟨lim.keeps x.toInCall.keep, codeAny_func ?_⟩
  obtain ⟨t, ht, hq⟩ := hbody A outer s H vs Q E (hr.deeper _) hsp
  have I : Inv (cxOf CX P w K mg base N qual scope f cdv A outer s H E) [] (start N vs) H s1 := inv_start S hr.hd e0 hl r x
  refine wpAny_mono (ht.run [] s1 (start N vs) H _ I hq) (fun fl s' hs => ?_) fun e s' hs => hs
  have fin : ∀ {σ' : L2.St} {H' : Hp} {v : V} {u : Value}, Inv (cxOf CX P w K mg base N qual scope f cdv A outer s H E) [] σ' H' s' → RelV v u → Q v H' → CE outer P w H s Q u s' :=
    fun {σ' H' v u} J rv q => ⟨v, H', J.os, J.bare, J.base, J.hok, rv, q⟩
  cases fl with
  | ret u =>
    obtain ⟨v, σ', H', J, rv, q⟩ := hs
    exact fin J rv q
  | next =>
    obtain ⟨σ', H', J, q⟩ := hs
    exact fin (v := V.non) (u := Value.none) J rfl q
  | brk =>
    obtain ⟨_, _, _, q⟩ := hs
    exact False.elim q
  | cont =>
    obtain ⟨_, _, _, q⟩ := hs
    exact False.elim q
section
variable {P : Program} {w : World} {K : PySem.W.Frag} {mg : Str → Option Value} {base : Heap}
theorem Fun.okG {x qual : Str} {st : Stmt} {f : Addr} {fd : FuncData} {N ps : List Str} {k : Nat} {sp : Sp} (F : Fun K x qual st f fd) (S : FnScope N ps (defScope st)) (len : ∀ vs H Q E, sp vs H Q E → vs.length = ps.length)
    (hbody : ∀ (cdv : Value) (A : Around) (outer : List Env) (s : Shared) (H : Hp) (vs : List V) (Q : VK) (E : XK), MP.Room k (A.deeper (envOfC qual (defScope st) s.heap.objs.size f cdv)) → sp vs H Q E →
      ∃ t, PSs (cxOf (L2.CX P w) P w K mg base N qual (defScope st) f cdv A outer s H E) (defBody st) t ∧ t { nx := fun _ H' => Q .non H', rt := Q } (L2.start N vs) H) : MP.FnOk P w K mg base (L2.CX P w) (k + 1) f fd ps sp := by
  obtain ⟨oc, od, kV, doc, pm, an, cdv, ct, osl, rfl, lk, hcd⟩ := F.ex
  exact fnG_of lk hcd S len fun A outer s H vs Q E hr hsp => hbody cdv A outer s H vs Q E hr hsp
abbrev cxL (P : Program) (w : World) (K : PySem.W.Frag) (mg : Str → Option Value) (base : Heap) (N : List Str) (qual : Str) (sc : Scope) (f : Addr) (cdv : Value) (A : Around) (outer : List Env) (s : Shared) (H : Hp) (E : XK) : Cx := cxOf (L2.CX P w) P w K mg base N qual sc f cdv A outer s H E
theorem Fun.okL {x qual : Str} {st : Stmt} {f : Addr} {fd : FuncData} {N ps : List Str} {k : Nat} {lb : LS} (Fn : Fun K x qual st f fd) (S : FnScope N ps (defScope st))
    (hb : ∀ (cdv : Value) (A : Around) (outer : List Env) (s : Shared) (H : Hp) (E : XK), Room k (A.deeper (envOfC qual (defScope st) s.heap.objs.size f cdv)) → PSsL (cxL P w K mg base N qual (defScope st) f cdv A outer s H E) (defBody st) lb) :
    FnL P w K mg base (k + 1) f fd ps (bodyF N.length lb) := by
  refine Fun.okG Fn S (fun vs H Q E h => h.1) fun cdv A outer s H vs Q E hr h => ⟨_, hb cdv A outer s H E hr, ?_⟩
  obtain ⟨hl, m, S0, ds, x0, r, nb, q1, q2⟩ := h
  refine ⟨m, ds.map some ++ List.replicate (N.length - ds.length) none, S0, x0, ?_, ?_, ?_⟩
  · exact er_start r
  · simp [L2.start, r.length]
  · have hB : ∀ a, bodyF N.length lb ds S0 = a → fin (lb (ds.map some ++ List.replicate (N.length - ds.length) none) S0) = a := fun a h => h
    generalize hA : lb (ds.map some ++ List.replicate (N.length - ds.length) none) S0 = A0 at hB
    have hb0 : bodyF N.length lb ds S0 = fin A0 := by unfold bodyF; rw [hA]
    rw [hb0] at nb q1 q2
    refine ⟨?_, fun ρ' S' e σ' H' ⟨m', e', x', er', _⟩ => ?_, fun d S' e v H' z => ?_, fun ρ' S' e => ?_, fun ρ' S' e => ?_, fun C fs ρ' S' e u s' z => ?_⟩
    · cases A0 with
      | bad => exact absurd rfl nb
      | exc C fs S' => exact absurd rfl nb
      | ok fl S' => exact ⟨fl, S', rfl⟩
    · subst e
      exact q1 .non S' rfl .non H' ⟨m', e', x', .non⟩
    · subst e
      exact q1 d S' rfl v H' z
    · subst e
      exact absurd rfl nb
    · subst e
      exact absurd rfl nb
    · subst e
      refine takes_of (E := E) rfl rfl rfl rfl u s' (XE.imp z fun cls d σ' H' w => ?_)
      obtain ⟨w1, m', w2, w4, w5, _⟩ := w
      exact q2 C fs S' rfl cls d H' ⟨w1, m', w2, w4, w5⟩
end
end MP

namespace MP
open PySem PySem.Spec PyProof.Rows L2

section
variable {X : Cx}
/-! ### ints -/
def gSub : G2 := g2I fun i j => some (.int (i - j))
theorem opl_sub : OpL X (binaryOp .Sub) gSub := opl_int0 op_sub fun i j _ _ _ => .int _
def gMulI : G2 := g2I fun i j => if i.natAbs.log2 + j.natAbs.log2 < 1000000 then some (.int (i * j)) else none
theorem opl_mulI : OpL X (binaryOp .Mult) gMulI := opl_int op_mulW fun i j d e => by
  split at e
  · cases e; exact ⟨‹_›, fun _ _ _ => .int _⟩
  · cases e
def gDiv : G2 := g2I fun i j => if 0 < j ∧ j.natAbs.log2 < 9000 then some (.int (i / j)) else none
theorem opl_div : OpL X (binaryOp .FloorDiv) gDiv := opl_int op_fdivW fun i j d e => by
  split at e
  · cases e; exact ⟨‹_›, fun _ _ _ => .int _⟩
  · cases e
def gMod : G2 := g2I fun i j => if 0 < j then some (.int (i % j)) else none
theorem opl_mod : OpL X (binaryOp .Mod) gMod := opl_int op_mod fun i j d e => by
  split at e
  · cases e; exact ⟨‹_›, fun _ _ _ => .int _⟩
  · cases e
def gPow : G2 := g2I fun i j => if 0 ≤ j ∧ j ≤ 1000000 ∧ i.natAbs < 2 ^ 64 then some (.int (i ^ j.toNat)) else none
theorem opl_pow : OpL X (binaryOp .Pow) gPow := opl_int op_pow fun i j d e => by
  split at e
  · cases e; exact ⟨‹_›, fun _ _ _ => .int _⟩
  · cases e
def gIAdd : G2 := g2I fun i j => some (.int (i + j))
def gISub : G2 := g2I fun i j => some (.int (i - j))
def gLtI : G2 := g2I fun i j => some (.bl (decide (i < j)))
def gLeI : G2 := g2I fun i j => some (.bl (decide (i ≤ j)))
def gGtI : G2 := g2I fun i j => some (.bl (decide (j < i)))
def gGeI : G2 := g2I fun i j => some (.bl (decide (j ≤ i)))
theorem opl_ltI : OpL X (compareOp .Lt) gLtI := opl_int0 op_lt fun i j _ _ _ => .bl _
theorem opl_leI : OpL X (compareOp .LtE) gLeI := opl_int0 op_le fun i j _ _ _ => .bl _
theorem opl_gtI : OpL X (compareOp .Gt) gGtI := opl_int0 op_gt fun i j _ _ _ => .bl _
theorem opl_geI : OpL X (compareOp .GtE) gGeI := opl_int0 op_ge fun i j _ _ _ => .bl _
def gLtS : G2 := g2S fun i j => some (.bl (decide (i.cps.toList < j.cps.toList)))
theorem opl_ltS : OpL X (compareOp .Lt) gLtS := .of op_lt_str fun H m S x y dx dy d q rx ry e => by
  obtain ⟨i, j, e1, e2, e3⟩ := g2S_inv e
  cases e3
  exact ⟨i, j, vw_str rx e1, vw_str ry e2, qv_same q (.bl _)⟩

/-! ### == of data -/
mutual
def toPD : D → Option PyData
  | .non => some .none
  | .bl b => some (.bool b)
  | .int i => some (.int i)
  | .str s => some (.str s)
  | .tup xs => (toPDs xs).map .tuple
  | .ftup xs => (toPDs xs).map .tuple
  | .lst xs => (toPDs xs).map .list
  | _ => none
def toPDs : List D → Option (List PyData)
  | [] => some []
  | x :: xs => (toPD x).bind fun a => (toPDs xs).map fun b => a :: b
end
section
variable {K : PySem.W.Frag} {m : List Addr} {H : Hp}
mutual
theorem VR.dp {v : V} {d : D} {p : PyData} : VR K m H v d → toPD d = some p → Dp K H v p
  | .non, e => by simp only [toPD] at e; cases e; exact .non
  | .bl b, e => by simp only [toPD] at e; cases e; exact .bl b
  | .int b, e => by simp only [toPD] at e; cases e; exact .int b
  | .str b, e => by simp only [toPD] at e; cases e; exact .str b
  | @VR.tup _ _ _ a vs ds h r, e => by
    simp only [toPD] at e
    cases q : toPDs ds with
    | none => rw [q] at e; cases e
    | some ps => rw [q] at e; cases e; exact .tup (SqT.of h) (r.dps q)
  | @VR.ftup _ _ _ a vs ds o hd h r, e => by
    simp only [toPD] at e
    cases q : toPDs ds with
    | none => rw [q] at e; cases e
    | some ps => rw [q] at e; cases e; exact .tup (SqT.rd (.inr ⟨o, h⟩)) (r.dps q)
  | @VR.lst _ _ _ a vs ds n h r, e => by
    simp only [toPD] at e
    cases q : toPDs ds with
    | none => rw [q] at e; cases e
    | some ps => rw [q] at e; cases e; exact .lst (.inl h) (r.dps q)
  | @VR.lstK _ _ _ a vs ds o its n hk h1 h2 h3 h4 h5 r, e => by
    simp only [toPD] at e
    cases q : toPDs ds with
    | none => rw [q] at e; cases e
    | some ps => rw [q] at e; cases e; exact .lst (.inr ⟨o, its, n, hk, h1, h2, h3, h4, h5⟩) (r.dps q)
  | .dct _ _ _, e => by simp only [toPD] at e; cases e
  | .dctT _ _ _, e => by simp only [toPD] at e; cases e
  | .dcn _ _ _, e => by simp only [toPD] at e; cases e
  | .fdct _ _, e => by simp only [toPD] at e; cases e
  | .fn _, e => by simp only [toPD] at e; cases e
  | .obj _ _ _, e => by simp only [toPD] at e; cases e
  | .exn0 _ _, e => by simp only [toPD] at e; cases e
  | .exnD _ _ _ _ _, e => by simp only [toPD] at e; cases e
  | .ref _, e => by simp only [toPD] at e; cases e
theorem VRs.dps {v : List V} {d : List D} {p : List PyData} : VRs K m H v d → toPDs d = some p → DpAll K H v p
  | .nil, e => by simp only [toPDs] at e; cases e; exact .nil
  | @VRs.cons _ _ _ v d vs ds h r, e => by
    simp only [toPDs] at e
    cases q : toPD d with
    | none => rw [q] at e; cases e
    | some a =>
      rw [q] at e
      cases q2 : toPDs ds with
      | none => rw [q2] at e; cases e
      | some b => rw [q2] at e; cases e; exact .cons (h.dp q) (r.dps q2)
end
/-- a place of the store is read one deep -/
theorem VR.dpv {S : Sto} (x : SR K m H S) {v : V} {d : D} {p : PyData} (r : VR K m H v d) (e : toPD (vw S d) = some p) : Dp K H v p := by
  cases r with
  | @ref i a h =>
    dsimp only [vw] at e
    cases q : S[i]? with
    | none => rw [q] at e; simp only [toPD] at e; cases e
    | some ob =>
      rw [q] at e
      have z := x.at_ i a ob h q
      cases z with
      | @lst vs ds hh rr =>
        simp only [toPD] at e
        cases q2 : toPDs ds with
        | none => rw [q2] at e; cases e
        | some ps => rw [q2] at e; cases e; exact .lst (SqL.of hh) (rr.dps q2)
      | dct _ _ => simp only [toPD] at e; cases e
      | dctT _ _ => simp only [toPD] at e; cases e
      | dcn _ _ => simp only [toPD] at e; cases e
      | tab _ _ _ => simp only [toPD] at e; cases e
      | ins _ _ => simp only [toPD] at e; cases e
  | non => exact VR.dp (m := m) .non e
  | bl b => exact VR.dp (m := m) (.bl b) e
  | int b => exact VR.dp (m := m) (.int b) e
  | str b => exact VR.dp (m := m) (.str b) e
  | tup h r => exact VR.dp (m := m) (.tup h r) e
  | ftup hd h r => exact VR.dp (m := m) (.ftup hd h r) e
  | lst n h r => exact VR.dp (.lst n h r) e
  | lstK hk h1 h2 h3 h4 h5 r => exact VR.dp (m := m) (.lstK hk h1 h2 h3 h4 h5 r) e
  | dct n h r => exact VR.dp (.dct n h r) e
  | dctT n h r => exact VR.dp (.dctT n h r) e
  | dcn n h r => exact VR.dp (.dcn n h r) e
  | fdct h r => exact VR.dp (m := m) (.fdct h r) e
  | fn h => exact VR.dp (m := m) (.fn h) e
  | obj n h r => exact VR.dp (.obj n h r) e
  | exn0 n h => exact VR.dp (.exn0 n h) e
  | exnD n nd h hd r => exact VR.dp (.exnD n nd h hd r) e
end
/-- plain things that are told apart at once -/
def eqS : D → D → Option Bool
  | .int i, .int j => some (decide (i = j))
  | .str i, .str j => some (decide (i = j))
  | .bl i, .bl j => some (decide (i = j))
  | .non, .non => some true
  | .non, .int _ | .int _, .non | .non, .str _ | .str _, .non | .non, .bl _ | .bl _, .non => some false
  | .int _, .str _ | .str _, .int _ | .bl _, .str _ | .str _, .bl _ => some false
  | _, _ => none
def eqP (S : Sto) (x y : D) : Option Bool := (toPD (vw S x)).bind fun a => (toPD (vw S y)).bind fun b => if SeqAt.shaped a = true ∧ SeqAt.shaped b = true then some (PyData.eqv a b) else none
def eqD (S : Sto) (x y : D) : Option Bool := (eqS x y).or (eqP S x y)
def gEq : G2 := fun S x y => (eqD S x y).map .bl
def gNe : G2 := fun S x y => (eqD S x y).map fun b => .bl (!b)
theorem eqS_rEq {K : PySem.W.Frag} {m : List Addr} {H : Hp} {x y : V} {dx dy : D} {b : Bool} (rx : VR K m H x dx) (ry : VR K m H y dy) (h : eqS dx dy = some b) : scal x y = true ∧ decide (x = y) = b := by
  cases rx <;> cases ry <;> simp only [eqS] at h <;> (try cases h) <;> refine ⟨rfl, ?_⟩ <;> simp
theorem eqP_inv {S : Sto} {x y : D} {b : Bool} (h : eqP S x y = some b) : ∃ p q, toPD (vw S x) = some p ∧ toPD (vw S y) = some q ∧ SeqAt.shaped p = true ∧ SeqAt.shaped q = true ∧ PyData.eqv p q = b := by
  unfold eqP at h
  cases q1 : toPD (vw S x) with
  | none => rw [q1] at h; cases h
  | some p =>
    rw [q1] at h
    cases q2 : toPD (vw S y) with
    | none => rw [q2] at h; cases h
    | some q =>
      rw [q2] at h
      dsimp only [Option.bind] at h
      split at h
      · rename_i z
        cases h
        exact ⟨p, q, rfl, rfl, z.1, z.2, rfl⟩
      · cases h
theorem opl_eq (hu : X.A.units + 64 < cLine) : OpL X (compareOp .Eq) gEq := ⟨fun pins s σ H m S x y dx dy d v u I q rx ry ex ey e => by
  unfold gEq eqD at e
  cases z : eqS dx dy with
  | some b =>
    rw [z] at e
    cases e
    obtain ⟨h1, h2⟩ := eqS_rEq rx ry z
    exact thn (op_eq pins s σ H x y v u _ I ex ey ⟨h1, by rw [h2]; exact qv_same q (.bl b)⟩) fun _ _ z => vp_of z
  | none =>
    rw [z] at e
    cases z2 : eqP S dx dy with
    | none => rw [z2] at e; cases e
    | some b =>
      rw [z2] at e
      cases e
      obtain ⟨p, p', h1, h2, h3, h4, h5⟩ := eqP_inv z2
      exact thn (op_eqD hu pins s σ H x y v u _ I ex ey ⟨p, p', rx.dpv q h1, ry.dpv q h2, h3, h4, by rw [h5]; exact qv_same q (.bl b)⟩) fun _ _ z => vp_of z⟩
theorem opl_ne (hu : X.A.units + 64 < cLine) : OpL X (compareOp .NotEq) gNe := ⟨fun pins s σ H m S x y dx dy d v u I q rx ry ex ey e => by
  unfold gNe eqD at e
  cases z : eqS dx dy with
  | some b =>
    rw [z] at e
    cases e
    obtain ⟨h1, h2⟩ := eqS_rEq rx ry z
    exact thn (op_ne pins s σ H x y v u _ I ex ey ⟨h1, by rw [h2]; exact qv_same q (.bl _)⟩) fun _ _ z => vp_of z
  | none =>
    rw [z] at e
    cases z2 : eqP S dx dy with
    | none => rw [z2] at e; cases e
    | some b =>
      rw [z2] at e
      cases e
      obtain ⟨p, p', h1, h2, h3, h4, h5⟩ := eqP_inv z2
      exact thn (op_neD hu pins s σ H x y v u _ I ex ey ⟨p, p', rx.dpv q h1, ry.dpv q h2, h3, h4, by rw [h5]; exact qv_same q (.bl _)⟩) fun _ _ z => vp_of z⟩
/-- is None -/
def isNonD : D → Bool
  | .non => true
  | _ => false
def gIsN : G2 := fun _ x y => match y with
  | .non => some (.bl (isNonD x))
  | _ => none
def gNotN : G2 := fun _ x y => match y with
  | .non => some (.bl (!isNonD x))
  | _ => none
theorem vr_non {K : PySem.W.Frag} {m : List Addr} {H : Hp} {v : V} {d : D} (r : VR K m H v d) : decide (v = .non) = isNonD d := by
  cases r <;> simp [isNonD]
theorem opl_isN : OpL X (compareOp .Is) gIsN := .of op_isN fun H m S x y dx dy d q rx ry e => by
  unfold gIsN at e
  split at e
  · cases e
    cases ry
    exact ⟨rfl, by rw [vr_non rx]; exact qv_same q (.bl _)⟩
  · cases e
theorem opl_notN : OpL X (compareOp .IsNot) gNotN := .of op_notN fun H m S x y dx dy d q rx ry e => by
  unfold gNotN at e
  split at e
  · cases e
    cases ry
    exact ⟨rfl, by rw [vr_non rx]; exact qv_same q (.bl _)⟩
  · cases e

/-! ### built-ins -/
def gLen : GC := fun S ds => match ds with
  | [d] => match vw S d with
    | .lst xs => some (.int xs.length)
    | .tup xs => some (.int xs.length)
    | .ftup xs => some (.int xs.length)
    | .str z => if z.length ≤ sizeLine then some (.int z.length) else none
    | _ => none
  | _ => none
theorem VRs.one {K : PySem.W.Frag} {m : List Addr} {H : Hp} {vs : List V} {d : D} (r : VRs K m H vs [d]) : ∃ v, vs = [v] ∧ VR K m H v d := by
  cases r with
  | cons h r => cases r; exact ⟨_, rfl, h⟩
theorem VRs.two {K : PySem.W.Frag} {m : List Addr} {H : Hp} {vs : List V} {d e : D} (r : VRs K m H vs [d, e]) : ∃ v w, vs = [v, w] ∧ VR K m H v d ∧ VR K m H w e := by
  cases r with
  | cons h r =>
    cases r with
    | cons h' r => cases r; exact ⟨_, _, rfl, h, h'⟩
theorem cl_len : CallL X (.builtin "len") gLen := .of call_len fun H m S xs ds d q r e => by
  unfold gLen at e
  split at e
  · rename_i d0
    obtain ⟨v, rfl, rv⟩ := r.one
    split at e
    · rename_i ys e1
      cases e
      obtain ⟨a, vs, rfl, h1, r1⟩ := vw_lst q rv e1
      exact ⟨_, ys.length, rfl, .inl ⟨vs, h1, r1.length.symm⟩, qv_same q (.int _)⟩
    · rename_i ys e1
      cases e
      obtain ⟨a, vs, rfl, h1, r1⟩ := vw_tup rv e1
      exact ⟨_, ys.length, rfl, .inr ⟨vs, SqT.of h1, r1.length.symm⟩, qv_same q (.int _)⟩
    · rename_i ys e1
      cases e
      obtain ⟨a, vs, o, rfl, _, h1, r1⟩ := vw_ftup rv e1
      exact ⟨_, ys.length, rfl, .inr ⟨vs, SqT.rd (.inr ⟨o, h1⟩), r1.length.symm⟩, qv_same q (.int _)⟩
    · rename_i z e1
      split at e
      · cases e
        cases vw_str rv e1
        exact ⟨_, z.length, rfl, ⟨‹_›, rfl⟩, qv_same q (.int _)⟩
      · cases e
    · cases e
  · cases e
def gAbs : GC := fun _ ds => match ds with
  | [.int i] => some (.int (if i < 0 then -i else i))
  | _ => none
theorem cl_abs : CallL X (.builtin "abs") gAbs := .of call_abs fun H m S xs ds d q r e => by
  unfold gAbs at e
  split at e
  · cases e
    obtain ⟨v, rfl, rv⟩ := r.one
    cases rv
    exact ⟨_, rfl, qv_same q (.int _)⟩
  · cases e
def gMin2 : GC := fun _ ds => match ds with
  | [.int i, .int j] => some (.int (if j < i then j else i))
  | _ => none
def gMax2 : GC := fun _ ds => match ds with
  | [.int i, .int j] => some (.int (if j > i then j else i))
  | _ => none
theorem cl_max2 (hc : X.calm = true) : CallL X (.builtin "max") gMax2 := .of (call_max2 hc) fun H m S xs ds d q r e => by
  unfold gMax2 at e
  split at e
  · cases e
    obtain ⟨v, w, rfl, rv, rw'⟩ := r.two
    cases rv
    cases rw'
    exact ⟨_, _, rfl, qv_same q (.int _)⟩
  · cases e
def blsOf : List D → Option (List Bool)
  | [] => some []
  | .bl b :: r => (blsOf r).map fun bs => b :: bs
  | _ => none
theorem vrs_bls {K : PySem.W.Frag} {m : List Addr} {H : Hp} : ∀ {vs : List V} {ds : List D} {bs : List Bool}, VRs K m H vs ds → blsOf ds = some bs → vs = bs.map V.bl
  | _, _, bs, .nil, e => by simp only [blsOf] at e; cases e; rfl
  | _, _, bs, @VRs.cons _ _ _ v d vs ds h r, e => by
    cases h with
    | bl b =>
      simp only [blsOf] at e
      cases q : blsOf ds with
      | none => rw [q] at e; cases e
      | some cs => rw [q] at e; cases e; rw [vrs_bls r q]; rfl
    | _ => simp only [blsOf] at e; cases e
def gAll : GC := fun S ds => match ds with
  | [d] => match vw S d with
    | .lst xs => (blsOf xs).map fun bs => .bl (bs.all id)
    | _ => none
  | _ => none
def gAny : GC := fun S ds => match ds with
  | [d] => match vw S d with
    | .lst xs => (blsOf xs).map fun bs => .bl (bs.any id)
    | _ => none
  | _ => none
theorem cl_all (hc : X.calm = true) : CallL X (.builtin "all") gAll := .of (cr_all hc) fun H m S xs ds d q r e => by
  unfold gAll at e
  split at e
  · obtain ⟨v, rfl, rv⟩ := r.one
    split at e
    · rename_i ys e1
      obtain ⟨a, vs, rfl, h1, r1⟩ := vw_lst q rv e1
      cases q2 : blsOf ys with
      | none => rw [q2] at e; cases e
      | some bs =>
        rw [q2] at e
        cases e
        exact ⟨a, bs, rfl, by rw [← vrs_bls r1 q2]; exact h1, qv_same q (.bl _)⟩
    · cases e
  · cases e
def gTuple : GC := fun S ds => match ds with
  | [d] => match vw S d with
    | .lst xs => some (.tup xs)
    | .tup xs => some (.tup xs)
    | _ => none
  | _ => none
theorem cl_tuple : CallL X (.type "tuple") gTuple := .of call_tuple_of fun H m S xs ds d q r e => by
  unfold gTuple at e
  split at e
  · obtain ⟨v, rfl, rv⟩ := r.one
    split at e
    · rename_i ys e1
      cases e
      obtain ⟨a, vs, rfl, h1, r1⟩ := vw_lst q rv e1
      exact ⟨a, vs, rfl, .inl ⟨h1, fun l hl => qv_new q hl (vr_newTup q hl r1)⟩⟩
    · rename_i ys e1
      cases e
      obtain ⟨a, vs, rfl, h1, r1⟩ := vw_tup rv e1
      exact ⟨a, vs, rfl, .inr ⟨SqT.of h1, qv_same q (.tup h1 r1)⟩⟩
    · cases e
  · cases e
def gList : GC := fun S ds => match ds with
  | [d] => match vw S d with
    | .lst xs => some (.lst xs)
    | .tup xs => some (.lst xs)
    | .ftup xs => some (.lst xs)
    | _ => none
  | _ => none
/-- str of an int, of a text -/
def gStr : GC := fun _ ds => match ds with
  | [.int i] => if i.natAbs.log2 < 1920 then some (.str (toString i)) else none
  | [.str z] => some (.str z)
  | _ => none
theorem cl_str : CallL X (.type "str") gStr := ⟨fun pins s σ H m S xs ds d us I q r rv e => by
  unfold gStr at e
  split at e
  · split at e
    · cases e
      obtain ⟨v, rfl, rv1⟩ := r.one
      cases rv1
      exact thn (call_str_int pins s σ H _ us _ I rv ⟨_, rfl, ‹_›, qv_same q (.str _)⟩) fun _ _ z => vp_of z
    · cases e
  · cases e
    obtain ⟨v, rfl, rv1⟩ := r.one
    cases rv1
    exact thn (SkE.call_str_str pins s σ H _ us _ I rv ⟨_, rfl, qv_same q (.str _)⟩) fun _ _ z => vp_of z
  · cases e⟩
/-- repr of an int, a truth -/
def gRepr : GC := fun _ ds => match ds with
  | [.int i] => if i.natAbs.log2 < 1920 then some (.str (toString i)) else none
  | [.bl b] => some (.str (if b then "True" else "False"))
  | _ => none
end
end MP

namespace MP
open PySem PySem.Spec PyProof.Rows L2

/-! ### what a thing is -/
inductive Tg where
  | non | bl | int | str | tup | lst | dct | obj (C : Addr)
  deriving DecidableEq
def tyG : Tg → Value
  | .non => .type "NoneType"
  | .bl => .type "bool"
  | .int => .type "int"
  | .str => .type "str"
  | .tup => .type "tuple"
  | .lst => .type "list"
  | .dct => .type "dict"
  | .obj C => .ref C
def tgD : D → Option Tg
  | .non => some .non
  | .bl _ => some .bl
  | .int _ => some .int
  | .str _ => some .str
  | .tup _ => some .tup
  | .ftup _ => some .tup
  | .lst _ => some .lst
  | .dct _ _ => some .dct
  | .dcn _ _ => none
  | .fdct _ => none
  | .fn _ => none
  | .obj C _ => some (.obj C)
  | .exn _ _ => none
  | .ref _ => none
structure OwnOk (K : PySem.W.Frag) (C : Addr) : Prop where
  cl : Cls K C
  ha : PySem.W.findIn K (.ref C) "__class__" = some (some (.builtin "object.__class__"))
  hn : PySem.W.specialIn K (.builtin "object.__class__") "__get__" = some (some (.builtin "getset_descriptor.__get__"))
  htk : PySem.W.takesIn K (.builtin "object.__class__") = some true
  hm : PySem.W.mroIn K C (.type "object") = some true
section
variable {X : Cx} {pins : List (Addr × Obj)} {σ : L2.St} {H : Hp} {s : Shared} {m : List Addr} {S : Sto}
/-- what the library's rules ask of a value of that type -/
def Kit (K : PySem.W.Frag) (s : Shared) (u t : Value) : Prop := ∃ P : Heap → Prop, PySem.W.KitX K u t P ∧ P s.heap ∧ u ≠ .builtin "__main__.__loader__#opaque"
theorem kit_rd {a : Addr} {kvs : List (Key × V)} (I : Inv X pins σ H s) (h : Rd H a (.dK kvs)) : Kit X.K s (.ref a) (.type "dict") := by
  rcases h with h | ⟨ob, h⟩
  · exact kit_of I (x := .ref a) rfl (.base (.dK h))
  · exact kit_of I (x := .ref a) rfl (.fDict h)
theorem kit_rdT {a : Addr} {kvs : List (List Key × V)} (I : Inv X pins σ H s) (h : Rd H a (.dT kvs)) : Kit X.K s (.ref a) (.type "dict") := by
  rcases h with h | ⟨ob, h⟩
  · exact kit_of I (x := .ref a) rfl (.base (.dT h))
  · obtain ⟨_, _, _, vs, _, o, es, ep, h1, h2, _⟩ := (show ObjOk X.prog X.w H s.heap a (.frz ob (.dT kvs)) from I.hok a _ h)
    exact ⟨_, PySem.W.kitx_dict, ⟨o, h1, h2.1⟩, fun z => nomatch z⟩
theorem kit_lst {a : Addr} {xs : List V} (I : Inv X pins σ H s) (h : Rd H a (.lst xs)) : Kit X.K s (.ref a) (.type "list") := by
  rcases h with h | ⟨ob, h⟩
  · exact kit_of I (x := .ref a) rfl (.base (.lst h))
  · exact kit_of I (x := .ref a) rfl (.base (.frz h))
theorem kit_d {v : V} {u : Value} {d : D} {t : Tg} (I : Inv X pins σ H s) (x : SR X.K m H S) (r : RelV v u) (w : VR X.K m H v d) (ht : tgD (vw S d) = some t) (ho : ∀ C, t = .obj C → OwnOk X.K C) : Kit X.K s u (tyG t) := by
  cases w with
  | non => cases ht; exact kit_of I r (.base .non)
  | bl b => cases ht; exact kit_of I r (.base (.bl b))
  | int b => cases ht; exact kit_of I r (.base (.int b))
  | str b => cases ht; exact kit_of I r (.base (.str b))
  | tup h _ => cases ht; exact kit_of I r (.base (.tup h))
  | ftup _ h _ => cases ht; exact kit_of I r (.fTuple h)
  | lst n h _ => cases ht; cases r; exact kit_lst I h
  | lstK hk h1 h2 h3 h4 h5 _ => cases ht; exact kit_of I r (.kList hk h1)
  | dct n h _ => cases ht; cases r; exact kit_rd I (.inl h)
  | dctT n h _ => cases ht; cases r; exact kit_rdT I (.inl h)
  | dcn n h _ => cases ht
  | fdct h _ => cases ht
  | fn h => cases ht
  | @obj a C dx fs gs n h _ =>
    cases ht
    have o := ho C rfl
    exact kit_of I r (.base (.ins h o.cl o.ha o.hn o.htk o.hm))
  | exn0 n h => cases ht
  | exnD n nd h hd _ => cases ht
  | @ref i a h =>
    dsimp only [vw] at ht
    cases q : S[i]? with
    | none => rw [q] at ht; cases ht
    | some ob =>
      rw [q] at ht
      cases r
      cases x.at_ i a ob h q with
      | lst h _ => cases ht; exact kit_lst I (.inl h)
      | dct h _ => cases ht; exact kit_rd I (.inl h)
      | dctT h _ => cases ht; exact kit_rdT I (.inl h)
      | dcn h _ => cases ht
      | tab _ _ _ => cases ht
      | @ins C dx fs gs h _ =>
        cases ht
        have o := ho C rfl
        exact kit_of I (x := .ref a) rfl (.base (.ins h o.cl o.ha o.hn o.htk o.hm))
end

/-! ### isinstance -/
abbrev Tab := Tg → Option Bool
structure IsiOk (K : PySem.W.Frag) (c : Value) (tab : Tab) : Prop where
  one : ∀ t b, tab t = some b → PySem.W.kitOne K (tyG t) c = some b ∧ ∀ C, t = .obj C → OwnOk K C
section
variable {X : Cx} {e ce : Expr} {pos p : Pos} {l : LE} {cv : Value} {cw : V} {tab : Tab}
def gIsi (tab : Tab) (S : Sto) (d : D) : Option D := ((tgD (vw S d)).bind tab).map .bl
def lIsi (tab : Tab) (l : LE) : LE := fun ρ S => (l ρ S).bind fun d S1 => lift1 (gIsi tab S1 d) S1
theorem pel_isi (hg : Gl X "isinstance") (hm : X.mg "isinstance" = none) (he : PEL X e l) (hc : PE X ce (tC cw)) (hcv : ClsV cw cv) (ok : IsiOk X.K cv tab)
    (hs : starEach [e, ce] X.env = (false, eval e X.env) :: starEach [ce] X.env := by rfl) (hs2 : starEach [ce] X.env = (false, eval ce X.env) :: starEach [] X.env := by rfl)
    (hpl : (backTo pos (starEach [ce] X.env)).any (·.1) = false := by rfl) : PEL X (.Call (.Name "isinstance" p) [e, ce] [] pos) (lIsi tab l) := by
  refine ⟨fun pins s σ H m ρ S I x r hp => ?_⟩
  refine wpAny_Call_Name_kw (ld_blt I hg hm (u := .builtin "isinstance") (by decide +kernel) ?_ (by decide) (by decide))
  refine PyProof.Rows.callWith_builtin1 ?_ hs hpl
  rw [hs]
  show wpAny _ _ (spliced ((false, eval e X.env) :: backTo pos (starEach [ce] X.env))) _ _ s
  refine Calls.spliced_cons (run_seq he I x r hp fun d S1 q1 v u s1 H1 m1 I1 rv e1 x1 w1 r1 hp1 => ?_)
  rw [hs2]
  show wpAny _ _ (spliced ((false, eval ce X.env) :: backTo pos (starEach [] X.env))) _ _ s1
  refine Calls.spliced_cons (thn (hc.run pins s1 σ H1 (fun v' H' => v' = cw ∧ H' = H1) I1 ⟨rfl, rfl⟩) fun u2 s2 ⟨v2, H2, I2, rv2, ev, eH⟩ => ?_)
  subst ev
  subst eH
  refine Calls.spliced_nil ?_
  cases q2 : gIsi tab S1 d with
  | none => rw [q2] at hp1; exact absurd rfl hp1.1
  | some d' =>
    have e0 : lIsi tab l ρ S = .ok d' S1 := by unfold lIsi; rw [q1, bind_ok, q2]; rfl
    rw [e0]
    unfold gIsi at q2
    cases qt : tgD (vw S1 d) with
    | none => rw [qt] at q2; cases q2
    | some t =>
      rw [qt] at q2
      cases qb : tab t with
      | none => rw [show (some t).bind tab = tab t from rfl, qb] at q2; cases q2
      | some b =>
        rw [show (some t).bind tab = tab t from rfl, qb] at q2
        cases q2
        obtain ⟨k1, k2⟩ := ok.one t b qb
        obtain ⟨P, Z, pp, hx⟩ := kit_d I2 x1 rv w1 qt k2
        have ec := hcv.eq rv2
        subst ec
        exact PySem.W.kia_one Z I2.kIn pp k1 hx fun tk => ⟨_, S1, rfl, .bl b, H2, m1, I2.tok tk, rfl, e1, x1, .bl b⟩
end

/-! ### own special methods -/
/-- somewhere below the running body, with room -/
structure SubA (X : Cx) (n : Nat) (A : Around) : Prop where
  room : Room n A
  fr : A.frames = X.A.frames
theorem SubA.in1 {X : Cx} {n : Nat} {A : Around} (s : SubA X (n + 1) A) : SubA X n A.in1 := ⟨s.room.in1, s.fr⟩
theorem SubA.mono {X : Cx} {n m : Nat} {A : Around} (s : SubA X n A) (h : m ≤ n) : SubA X m A := ⟨s.room.mono h, s.fr⟩
theorem SubA.self {X : Cx} {k : Nat} (h : Room k X.A) : SubA X k X.A := ⟨h, rfl⟩
def F1 (gp : Sto → D → Option D) : F := fun ds S => match ds with
  | [x] => lift1 (gp S x) S
  | _ => .bad
def F2 (gp : G2) : F := fun ds S => match ds with
  | [x, y] => lift1 (gp S x y) S
  | _ => .bad
section
variable {X : Cx} {pins : List (Addr × Obj)} {σ : L2.St} {H : Hp} {s : Shared} {m : List Addr} {S S' : Sto} {k : Nat} {f C : Addr} {fd : FuncData} {ps : List Str} {g : F} {vs : List V} {us : List Value} {ds : List D} {d : D}
theorem run_pure {A' : Around} {Ex : Value → Shared → Prop} (sb : SubA X k A') (Fn : FnL X.prog X.w X.K X.mg X.base k f fd ps g) (hb : Binds X.K fd ps []) (I : Inv X pins σ H s) (x : SR X.K m H S) (r : Vals vs us) (rd : VRs X.K m H vs ds) (hl : vs.length = ps.length) (hg : g ds S = .ok d S') :
    wpAny (model X.prog X.w) A' (call (.ref f) us) (VP X pins σ m H d S') Ex s := by
  have e0 : Env0 X.prog X.w X.K X.mg X.base A' X.stack s H := by
    have e := I.env0
    exact ⟨by rw [sb.fr]; exact e.frames, e.mod, e.bs, e.bsz, e.funs, e.frf, e.hok, e.bare⟩
  have hsp : spL X.K g ps.length vs H (fun v H' => QV X.K m H S' d v H') (fun _ _ _ => False) := by
    refine ⟨hl, m, S, ds, x, rd, fun z => ?_, fun d2 S2 q v H' z => ?_, fun C fs S2 q => ?_⟩
    · rw [hg] at z; cases z
    · rw [hg] at q; cases q; exact z
    · rw [hg] at q; cases q
  have hl2 : (us ++ ([] : List Value)).length = ps.length := by rw [List.append_nil, ← r.length]; exact hl
  have hb' := hb s us I.kIn hl2
  rw [List.append_nil] at hb'
  refine wpAny_call (codeAny_mono (Fn.run A' X.stack s H ⟨us, []⟩ us vs _ _ sb.room e0 hb' r hsp) fun r s' hq => ?_)
  cases r with
  | error e => obtain ⟨_, _, _, _, _, _, _, _, _, _, _, _, hq⟩ := hq; exact hq.elim
  | ok fl =>
    cases fl with
    | ret w =>
      obtain ⟨z, H', I', rz, m', e, x', w'⟩ := I.after hq
      exact ⟨z, H', m', I', rz, e, x', w'⟩
    | next => exact False.elim hq
    | brk => exact False.elim hq
    | cont => exact False.elim hq

/-- == by an own __eq__; the other one may be of the types ts -/
def gOwnEq (C : Addr) (ts : List Tg) (gp : G2) : G2 := fun S x y => match vw S x with
  | .obj C' _ => if C' = C then (match tgD (vw S y) with
    | some t => if t ∈ ts then gp S x y else none
    | none => none) else none
  | _ => none
theorem gOwnEq_inv {ts : List Tg} {gp : G2} {x y d : D} (h : gOwnEq C ts gp S x y = some d) : ∃ fs t, vw S x = .obj C fs ∧ tgD (vw S y) = some t ∧ t ∈ ts ∧ gp S x y = some d := by
  unfold gOwnEq at h
  split at h
  · rename_i C' fs q
    split at h
    · rename_i hc
      subst hc
      split at h
      · rename_i t qt
        split at h
        · exact ⟨fs, t, q, qt, ‹_›, h⟩
        · cases h
      · cases h
    · cases h
  · cases h
structure EqM (X : Cx) (C : Addr) (ts : List Tg) (gp : G2) : Prop where
  ex : ∃ (k : Nat) (f : Addr) (fd : FuncData) (ps : List Str), FnL X.prog X.w X.K X.mg X.base k f fd ps (F2 gp) ∧ Room (k + 2) X.A ∧ Binds X.K fd ps [] ∧ ps.length = 2 ∧ PySem.W.findIn X.K (.ref C) "__eq__" = some (some (.ref f)) ∧ PySem.W.isFn X.K (.ref f) = true
  fst : ∀ t ∈ ts, PySem.W.notFirst X.K C (tyG t) = true ∧ ∀ C', t = .obj C' → OwnOk X.K C'
theorem opl_ownEq {ts : List Tg} {gp : G2} (E : EqM X C ts gp) : OpL X (compareOp .Eq) (gOwnEq C ts gp) := ⟨fun pins s σ H m S x y dx dy d v u I q rx ry ex ey e => by
  obtain ⟨k, f, fd, ps, Fn, hr, hb, hl, hs, hf⟩ := E.ex
  obtain ⟨fs, t, h1, h2, h3, h4⟩ := gOwnEq_inv e
  obtain ⟨n1, n2⟩ := E.fst t h3
  obtain ⟨a, dx', fs', rfl, ha, _⟩ := vw_obj q rx h1
  cases ex
  obtain ⟨mA, J, _⟩ := ins_get I.hok ha
  obtain ⟨od, J, _⟩ := J.look
  obtain ⟨mm, hF⟩ := I.fr
  obtain ⟨P, Z, pp, _⟩ := kit_d I q ey ry h2 n2
  show wpAny _ _ (richCompare .Eq _ _) _ _ _
  refine PySem.W.cmp_K (op := .Eq) (tb := tyG t) (SubA.self hr).room.units0 hF I.ok.mod.kin J (Z.ty _ _ I.kIn pp) n1 hs hf ?_
  refine wpAny_mono (run_pure (vs := [.ref a, y]) (us := [.ref a, u]) (SubA.self (hr.mono (by omega))) Fn hb I q (.cons rfl (.cons ey .nil)) (.cons rx (.cons ry .nil)) (by rw [hl]; rfl) (show F2 gp [dx, dy] S = .ok d S from by simp only [F2]; rw [h4]; rfl)) (fun w s' z => ?_) fun _ _ z => z
  obtain ⟨vv, H', m', I', rv, e', x', w'⟩ := z
  have : w ≠ .notImplemented := fun zz => by
    subst zz
    cases w' <;> first | (cases rv; done) | (obtain ⟨_, rv⟩ := rv; cases rv)
  show PySem.W.CmpBack _ w s'
  unfold PySem.W.CmpBack
  split
  · exact absurd rfl this
  · exact ⟨vv, H', m', I', rv, e', x', w'⟩⟩
end
/-! ### != by object.__ne__ -/
section
variable {prog : Program} {w : World} {K : PySem.W.Frag} {h₀ : Heap} {L m : List Addr} {A : Around} {E : Value → Shared → Prop} {s : Shared} {x f C : Addr} {ox : Obj} {od : Option Obj}
end
end MP

namespace MP
open PySem PySem.Spec PyProof.Rows L2

section
variable {X : Cx} {C : Addr}
/-- != by an own __eq__ and object.__ne__ -/
def gOwnNe (C : Addr) (ts : List Tg) (gp : G2) : G2 := fun S x y => (gOwnEq C ts gp S x y).bind fun d => match d with
  | .bl b => some (.bl (!b))
  | _ => none
/-- an own special method of one argument -/
structure OneM (X : Cx) (C : Addr) (nm : Str) (gp : Sto → D → Option D) : Prop where
  ex : ∃ (k : Nat) (f : Addr) (fd : FuncData) (ps : List Str), FnL X.prog X.w X.K X.mg X.base k f fd ps (F1 gp) ∧ Room (k + 3) X.A ∧ Binds X.K fd ps [] ∧ ps.length = 1 ∧ PySem.W.findIn X.K (.ref C) nm = some (some (.ref f)) ∧ PySem.W.isFn X.K (.ref f) = true
def gOwn1 (C : Addr) (gp : Sto → D → Option D) (S : Sto) (d : D) : Option D := match vw S d with
  | .obj C' _ => if C' = C then gp S d else none
  | _ => none
def strD : D → Option D
  | .str z => some (.str z)
  | _ => none
def gStrO (C : Addr) (gp : Sto → D → Option D) : GC := fun S ds => match ds with
  | [d] => (gOwn1 C gp S d).bind strD
  | _ => none
def gLenO (C : Addr) (gp : Sto → D → Option D) : GC := fun S ds => match ds with
  | [d] => (gOwn1 C gp S d).bind fun e => match e with
    | .int n => if 0 ≤ n ∧ n < 2 ^ 63 then some (.int n) else none
    | _ => none
  | _ => none
end
end MP

namespace MP
open PySem PySem.Spec PyProof.Rows L2

/-! ### f'..' -/
section
variable {X : Cx} {e : Expr} {es : List Expr} {l : LE} {pos : Pos}
def gFmt (S : Sto) (d : D) : Option D := match vw S d with
  | .str y => if y.length ≤ sizeLine then some (.str y) else none
  | .int i => if i.natAbs.log2 < 1920 then some (.str (toString i)) else none
  | _ => none
def lFmt (l : LE) : LE := fun ρ S => (l ρ S).bind fun d S1 => lift1 (gFmt S1 d) S1
abbrev LJ := Str → Ev → Sto → R Str
structure PJL (X : Cx) (es : List Expr) (l : LJ) : Prop where
  run : ∀ (acc : Str) (pins : List (Addr × Obj)) (s : Shared) (σ : L2.St) (H : Hp) (m : List Addr) (ρ : Ev) (S : Sto) (Rr : Str → Shared → Prop), acc.length ≤ sizeLine → Inv X pins σ H s → SR X.K m H S → ER X.K m H σ ρ → Hope X σ m H (l acc ρ S) →
    (∀ out S1 s1 H1 m1, l acc ρ S = .ok out S1 → out.length ≤ sizeLine → Inv X pins σ H1 s1 → Ext m H m1 H1 → SR X.K m1 H1 S1 → Rr out s1) → Joins (model X.prog X.w) X.A X.xe (evalEach es X.env) acc Rr s
def jNil : LJ := fun acc _ S => .ok acc S
def jCons (l : LE) (t : LJ) : LJ := fun acc ρ S => (l ρ S).bind fun d S1 => match d with
  | .str y => if (acc ++ y).length ≤ sizeLine then t (acc ++ y) ρ S1 else .bad
  | _ => .bad
def lJoin (t : LJ) : LE := fun ρ S => (t Str.empty ρ S).bind fun out S1 => .ok (.str out) S1
end

/-! ### methods of the built-in types -/
/-- the value and the store behind a method -/
abbrev GM := Sto → D → List D → Option (D × Sto)
structure MtL (X : Cx) (id : String) (g : GM) : Prop where
  run : ∀ (pins : List (Addr × Obj)) (s : Shared) (σ : L2.St) (H : Hp) (m : List Addr) (S S' : Sto) (x : V) (dx d : D) (xs : List V) (ds : List D) (v : Value) (us : List Value), Inv X pins σ H s → SR X.K m H S → VR X.K m H x dx → VRs X.K m H xs ds → RelV x v → Vals xs us → g S dx ds = some (d, S') →
    wpAny (model X.prog X.w) X.A (call (.builtin id) (v :: us)) (VP X pins σ m H d S') X.xe s
def isTy (T : String) (S : Sto) (d : D) : Bool := match vw S d with
  | .lst _ => T == "list"
  | .str _ => T == "str"
  | .dct _ _ => match d with
    | .ref _ => T == "dict"
    | _ => false
  | _ => false
theorem ty_of {X : Cx} {m : List Addr} {H : Hp} {S : Sto} {v : V} {d : D} {T : String} (x : SR X.K m H S) (r : VR X.K m H v d) (h : isTy T S d = true) : tyV X.K T v H := by
  unfold isTy at h
  split at h
  · rename_i xs q
    obtain ⟨a, vs, rfl, h1, _⟩ := vw_lst x r q
    exact .inl ⟨beq_iff_eq.mp h, vs, h1⟩
  · rename_i z q
    obtain rfl := vw_str r q
    exact beq_iff_eq.mp h
  · rename_i kvs q
    split at h
    · rename_i i
      cases r with
      | @ref _ a hm =>
        dsimp only [vw] at q
        cases q2 : S[i]? with
        | none => rw [q2] at q; cases q
        | some ob =>
          rw [q2] at q
          cases x.at_ i a ob hm q2 with
          | lst _ _ => cases q
          | ins _ _ => cases q
          | dct h1 _ => exact .inr (.inr (.inl ⟨beq_iff_eq.mp h, .inl ⟨_, h1⟩⟩))
          | dctT h1 _ => exact .inr (.inr (.inl ⟨beq_iff_eq.mp h, .inr ⟨_, h1⟩⟩))
          | dcn _ _ => cases q
          | tab _ _ _ => cases q
    · cases h
  · cases h
def liftM (o : Option (D × Sto)) : R D := match o with
  | some (d, S) => .ok d S
  | none => .bad
def lBM (T : String) (g : GM) (lo : LE) (t : LA) : LE := fun ρ S => (lo ρ S).bind fun d S0 => if isTy T S0 d = true then (t ρ S0).bind fun ds S1 => liftM (g S1 d ds) else .bad
section
variable {X : Cx} {o e : Expr} {es : List Expr} {lo : LE} {t : LA} {name : Str} {apos cpos : Pos} {T id : String} {g : GM}
theorem pel_bm (pa : PlainAttrs T) (slot : Slot T name id) (hty : typeOf (.builtin id) = pure (.type "method_descriptor")) (hm : MtL X id g) (ho : PEL X o lo) (ha : PAL X (e :: es) t)
    (hbase : attributeBase o name X.env (eval o X.env) = eval o X.env := by rfl)
    (hfew : ((backTo cpos (starEach (e :: es) X.env)).all (fun x => !x.1) && (backToKw cpos (keywordEach [] X.env)).all (fun x => x.1.isSome)
      && decide ((e :: es).length + ([] : List Keyword).length + (if ([] : List Keyword).isEmpty then 0 else 1) < 30)) = true := by rfl)
    (hline : (apos.endLine == cpos.line) = true := by rfl) (hs : starEach (e :: es) X.env = (false, eval e X.env) :: starEach es X.env := by rfl) (hplain : (backTo cpos (starEach es X.env)).any (·.1) = false := by rfl) :
    PEL X (.Call (.Attribute o name apos) (e :: es) [] cpos) (lBM T g lo t) := by
  refine ⟨fun pins s σ H m ρ S I x r hp => ?_⟩
  refine wpAny_Call_method_late hbase hfew hline rfl (run_seq ho I x r hp fun d S0 q0 v u s1 H1 m1 I1 rv e1 x1 w1 r1 hp1 => ?_)
  have hc := hope_if hp1
  rw [if_pos hc] at hp1
  obtain ⟨h1, h2⟩ := tyV_is I1 rv (ty_of x1 w1 hc)
  refine ⟨T, id, pa, slot, hty, h1, h2, ?_⟩
  have hA : wpAny (model X.prog X.w) X.A (spliced (backTo cpos (starEach (e :: es) X.env))) (fun us s' => wpAny (model X.prog X.w) X.A (call (.builtin id) (u :: us)) (VPr X pins σ m H (lBM T g lo t ρ S)) X.xe s') X.xe s1 :=
    run_seqA ha I1 x1 r1 hp1 fun ds S1 q1 vs us s2 H2 m2 I2 rv2 e2 x2 w2 r2 hp2 => by
      cases q2 : g S1 d ds with
      | none => rw [q2] at hp2; exact absurd rfl hp2.1
      | some z =>
        obtain ⟨d', S'⟩ := z
        have e0 : lBM T g lo t ρ S = .ok d' S' := by unfold lBM; rw [q0, bind_ok, if_pos hc, q1, bind_ok, q2]; rfl
        rw [e0]
        exact thn (hm.run pins s2 σ H2 m2 S1 S' v d d' vs ds u us I2 x2 (w1.ext e2 x1.muts) w2 rv rv2 q2) fun _ _ z => (vpr_of z).left (e1.trans e2)
  rw [hs] at hA ⊢
  exact Calls.callWith_builtin (by show (false || (backTo cpos (starEach es X.env)).any (·.1)) = false; rw [hplain] <;> rfl) (Calls.evalArgs_plain hA)
end
section
variable {X : Cx}
def stApp : GM := fun S r ds => match r, ds with
  | .ref j, [y] => match S[j]? with
    | some (.lst xs) => if xs.length < sizeLine then some (.non, S.set j (.lst (xs ++ [y]))) else none
    | _ => none
  | _, _ => none
theorem mtl_append : MtL X "list.append" stApp := ⟨fun pins s σ H m S S' x dx d xs ds v us I q r rs rv rvs e => by
  unfold stApp at e
  split at e
  · rename_i j y
    split at e
    · rename_i l q1
      split at e
      · rename_i hz
        cases e
        obtain ⟨a, rfl, ha, orr⟩ := VR.ref_at q r q1
        obtain ⟨w, rfl, rw'⟩ := rs.one
        cases orr with
        | @lst vs _ hh rr =>
          obtain ⟨z1, z2⟩ := q.write (o' := .lst (vs ++ [w])) (ob' := .lst (l ++ [y])) ha fun e => .lst upd_same ((rr.append (.cons rw' .nil)).ext e q.muts)
          exact thn (mt_append pins s σ H (.ref a) [w] v us (fun v' H' => v' = .non ∧ H' = upd H a (.lst (vs ++ [w]))) I rv rvs ⟨a, vs, w, rfl, rfl, hh, by rw [rr.length]; exact hz, rfl, rfl⟩) fun _ s' ⟨v', H', I', rv', ev, eH⟩ => by
            subst ev; subst eH
            exact ⟨.non, _, m, I', rv', z1, z2, .non⟩
      · cases e
    · cases e
  · cases e⟩
def stPopAt : GM := fun S r ds => match r, ds with
  | .ref j, [.int i] => match S[j]? with
    | some (.lst xs) => if -(2 ^ 63) ≤ i ∧ i < 2 ^ 63 then (seqIndex? i xs.length).bind fun k => (xs[k]?).map fun y => (y, S.set j (.lst (xs.eraseIdx k))) else none
    | _ => none
  | _, _ => none
theorem mtl_popAt : MtL X "list.pop" stPopAt := ⟨fun pins s σ H m S S' x dx d xs ds v us I q r rs rv rvs e => by
  unfold stPopAt at e
  split at e
  · rename_i j i
    split at e
    · rename_i l q1
      split at e
      · rename_i hz
        cases q2 : seqIndex? i l.length with
        | none => rw [q2] at e; cases e
        | some k =>
          rw [q2] at e
          cases q3 : l[k]? with
          | none => dsimp only [Option.bind] at e; rw [q3] at e; cases e
          | some y =>
            dsimp only [Option.bind] at e
            rw [q3] at e
            cases e
            obtain ⟨a, rfl, ha, orr⟩ := VR.ref_at q r q1
            obtain ⟨w, rfl, rw'⟩ := rs.one
            cases rw'
            cases orr with
            | @lst vs _ hh rr =>
              obtain ⟨y', hy, ry⟩ := rr.getr q3
              obtain ⟨z1, z2⟩ := q.write (o' := .lst (vs.eraseIdx k)) (ob' := .lst (l.eraseIdx k)) ha fun e => .lst upd_same ((rr.eraseIdx k).ext e q.muts)
              exact thn (mt_popAt pins s σ H (.ref a) [.int i] v us (fun v' H' => v' = y' ∧ H' = upd H a (.lst (vs.eraseIdx k))) I rv rvs ⟨a, vs, i, k, y', rfl, rfl, hh, hz.1, hz.2, by rw [rr.length]; exact q2, hy, rfl, rfl⟩) fun _ s' ⟨v', H', I', rv', ev, eH⟩ => by
                subst ev; subst eH
                exact ⟨_, _, m, I', rv', z1, z2, ry.ext z1 q.muts⟩
      · cases e
    · cases e
  · cases e⟩
theorem list_append_ty : typeOf (.builtin "list.append") = (pure (.type "method_descriptor") : Sem Value) := PySem.F.type_list_append
theorem list_pop_ty : typeOf (.builtin "list.pop") = (pure (.type "method_descriptor") : Sem Value) := PySem.F.type_list_pop
theorem pel_append {o e : Expr} {lo : LE} {le : LE} {apos cpos : Pos} (ho : PEL X o lo) (he : PEL X e le)
    (hbase : attributeBase o "append" X.env (eval o X.env) = eval o X.env := by rfl)
    (hfew : ((backTo cpos (starEach [e] X.env)).all (fun x => !x.1) && (backToKw cpos (keywordEach [] X.env)).all (fun x => x.1.isSome)
      && decide ([e].length + ([] : List Keyword).length + (if ([] : List Keyword).isEmpty then 0 else 1) < 30)) = true := by rfl)
    (hline : (apos.endLine == cpos.line) = true := by rfl) (hs : starEach [e] X.env = (false, eval e X.env) :: starEach [] X.env := by rfl) :
    PEL X (.Call (.Attribute o "append" apos) [e] [] cpos) (lBM "list" stApp lo (aCons le aNil)) :=
  pel_bm PySem.F.plainAttrs_list PySem.F.slot_list_append list_append_ty mtl_append ho (pal_cons he pal_nil hs) hbase hfew hline hs
theorem pel_popAt {o e : Expr} {lo : LE} {le : LE} {apos cpos : Pos} (ho : PEL X o lo) (he : PEL X e le)
    (hbase : attributeBase o "pop" X.env (eval o X.env) = eval o X.env := by rfl)
    (hfew : ((backTo cpos (starEach [e] X.env)).all (fun x => !x.1) && (backToKw cpos (keywordEach [] X.env)).all (fun x => x.1.isSome)
      && decide ([e].length + ([] : List Keyword).length + (if ([] : List Keyword).isEmpty then 0 else 1) < 30)) = true := by rfl)
    (hline : (apos.endLine == cpos.line) = true := by rfl) (hs : starEach [e] X.env = (false, eval e X.env) :: starEach [] X.env := by rfl) :
    PEL X (.Call (.Attribute o "pop" apos) [e] [] cpos) (lBM "list" stPopAt lo (aCons le aNil)) :=
  pel_bm PySem.F.plainAttrs_list PySem.F.slot_list_pop list_pop_ty mtl_popAt ho (pal_cons he pal_nil hs) hbase hfew hline hs
end
end MP

namespace MP
open PySem PySem.Spec PyProof.Rows L2

/-! ### keywords -/
structure PKL (X : Cx) (kws : List Keyword) (l : LA) : Prop where
  run : ∀ (pos : Pos) (pins : List (Addr × Obj)) (s : Shared) (σ : L2.St) (H : Hp) (m : List Addr) (ρ : Ev) (S : Sto), Inv X pins σ H s → SR X.K m H S → ER X.K m H σ ρ → Hope X σ m H (l ρ S) →
    wpAny (model X.prog X.w) X.A (evalAll ((backToKw pos (keywordEach kws X.env)).map (·.2))) (APr X pins σ m H (l ρ S)) X.xe s
section
variable {X : Cx} {e : Expr} {kws : List Keyword} {l : LE} {t : LA} {nm : Option Str} {kpos : Pos}
theorem pkl_nil : PKL X [] aNil := ⟨fun pos pins s σ H m ρ S I x r hp => wpAny_evalAll_nil ⟨[], S, [], H, m, rfl, I, .nil, Ext.refl, x, .nil⟩⟩
theorem pkl_cons (he : PEL X e l) (ht : PKL X kws t) : PKL X (⟨nm, e, kpos⟩ :: kws) (aCons l t) := by
  refine ⟨fun pos pins s σ H m ρ S I x r hp => ?_⟩
  show wpAny _ _ (evalAll ((do let v ← eval e X.env; standAt pos; pure v) :: (backToKw pos (keywordEach kws X.env)).map (·.2))) _ _ s
  refine wpAny_evalAll_cons (wpAny_bind (run_seq he I x r hp fun d S1 q1 v u s1 H1 m1 I1 rv e1 x1 w1 r1 hp1 => wpAny_bind (wpAny_standAt (wpAny_pure ?_))))
  have hp2 : Hope X σ m1 H1 (t ρ S1) := hope_seq hp1
  refine thn (ht.run pos pins s1 σ H1 m1 ρ S1 I1 x1 r1 hp2) fun us s2 ⟨ds, S2, vs, H2, m2, q2, I2, rv2, e2, x2, w2⟩ => ?_
  refine ⟨d :: ds, S2, v :: vs, H2, m2, ?_, I2, .cons rv rv2, e1.trans e2, x2, .cons (w1.ext e2 x1.muts) w2⟩
  unfold aCons
  rw [q1, bind_ok, q2]
  rfl
end
/-- the values in the parameters' order -/
def pick {α : Type} (p : List Nat) (xs : List α) : List α := p.filterMap fun i => xs[i]?
theorem vals_pick {vs : List V} {us : List Value} (r : Vals vs us) : ∀ p : List Nat, Vals (pick p vs) (pick p us)
  | [] => .nil
  | i :: p => by
    unfold pick
    cases q : vs[i]? with
    | none =>
      have h : us[i]? = none := by
        rw [List.getElem?_eq_none_iff] at q ⊢
        rw [← r.length]; exact q
      rw [List.filterMap_cons_none q, List.filterMap_cons_none h]
      exact vals_pick r p
    | some v =>
      obtain ⟨u, hu, ru⟩ := r.get q
      rw [List.filterMap_cons_some q, List.filterMap_cons_some hu]
      exact .cons ru (vals_pick r p)
theorem VRs.pick {K : PySem.W.Frag} {m : List Addr} {H : Hp} {vs : List V} {ds : List D} (r : VRs K m H vs ds) : ∀ p : List Nat, VRs K m H (MP.pick p vs) (MP.pick p ds)
  | [] => .nil
  | i :: p => by
    unfold MP.pick
    cases q : ds[i]? with
    | none =>
      have h : vs[i]? = none := by
        rw [List.getElem?_eq_none_iff] at q ⊢
        rw [r.length]; exact q
      rw [List.filterMap_cons_none q, List.filterMap_cons_none h]
      exact VRs.pick r p
    | some d =>
      obtain ⟨u, hu, ru⟩ := r.getr q
      rw [List.filterMap_cons_some q, List.filterMap_cons_some hu]
      exact .cons ru (VRs.pick r p)
/-- how a call with n values by place and keywords ks binds: p the order, ds0 the values by default -/
structure KwB (K : PySem.W.Frag) (fd : FuncData) (ps : List Str) (n : Nat) (ks : List Str) (p : List Nat) (ds0 : List Value) : Prop where
  to : ∀ (s : Shared) (us ws : List Value), K.In s.heap → us.length = n → ws.length = ks.length → BindsTo s fd ⟨us, ks.zip ws⟩ (ps.zip (pick p (us ++ ws ++ ds0)))
  len : ∀ {α : Type} (xs : List α), xs.length = n + ks.length + ds0.length → (pick p xs).length = ps.length
theorem pick_len {α : Type} : ∀ (p : List Nat) (xs : List α), p.all (fun i => decide (i < xs.length)) = true → (pick p xs).length = p.length
  | [], xs, _ => rfl
  | i :: p, xs, h => by
    rw [List.all_cons, Bool.and_eq_true] at h
    have hi := of_decide_eq_true h.1
    unfold pick
    rw [List.filterMap_cons_some (List.getElem?_eq_getElem hi), List.length_cons]
    exact congrArg Nat.succ (pick_len p xs h.2)
theorem kwb {K : PySem.W.Frag} {x qual : Str} {st : Stmt} {f : Addr} {fd : FuncData} {ps ks : List Str} {n : Nat} {p : List Nat} (F : Fun K x qual st f fd) (hp : p.length = ps.length) (ha : p.all (fun i => decide (i < n + ks.length)) = true)
    (h : ∀ (kV doc pm : Value) (an : Option Addr) (cdv ct : Value) (us ws : List Value), us.length = n → ws.length = ks.length → bindArgs (PySem.W.fnOf x qual (defArgs st) (defBody st) (defScope st) .none kV doc pm an cdv ct) ⟨us, ks.zip ws⟩ = pure (ps.zip (pick p (us ++ ws)))) : KwB K fd ps n ks p [] := by
  obtain ⟨oc, od, kV, doc, pm, an, cdv, ct, osl, rfl, lk, hcd⟩ := F.ex
  refine ⟨fun s us ws _ l1 l2 => ?_, fun xs hx => ?_⟩
  · rw [List.append_nil]
    exact .of_eq (h kV doc pm an cdv ct us ws l1 l2)
  · rw [← hp]
    exact pick_len p xs (by rw [hx]; exact ha)

section
variable {X : Cx} {e : Expr} {pos p : Pos} {es : List Expr} {kws : List Keyword} {t tk : LA} {x : Str} {k n : Nat} {f C : Addr} {fd : FuncData} {ps ks : List Str} {g : F}
theorem run_fnK {pins : List (Addr × Obj)} {σ : L2.St} {H : Hp} {s : Shared} {full : List Value} {args : Args} {vs : List V} {m : List Addr} {S : Sto} {ds : List D} (Fn : FnL X.prog X.w X.K X.mg X.base k f fd ps g) (hr : Room k X.A) (hb : BindsTo s fd args (ps.zip full))
    (I : Inv X pins σ H s) (x : SR X.K m H S) (r : Vals vs full) (rd : VRs X.K m H vs ds) (hl : vs.length = ps.length) (hp : Hope X σ m H (g ds S)) :
    wpAny (model X.prog X.w) X.A (call (.ref f) args.pos args.kw) (VPr X pins σ m H (g ds S)) X.xe s := by
  have hsp : spL X.K g ps.length vs H (fun v H' => ∃ d S', g ds S = .ok d S' ∧ QV X.K m H S' d v H') (fun cls d H' => ∃ C fs S', g ds S = .exc C fs S' ∧ WL X.K m H C fs S' cls d H') :=
    ⟨hl, m, S, ds, x, rd, hp.1, fun d S' q v H' z => ⟨d, S', q, z⟩, fun C fs S' q cls d H' z => ⟨C, fs, S', q, z⟩⟩
  refine wpAny_call (codeAny_mono (Fn.run X.A X.stack s H args full vs _ _ hr I.env0 hb r hsp) fun r s' hq => ?_)
  cases r with
  | error e =>
    cases q : g ds S with
    | bad => rw [q] at hp; exact absurd rfl hp.1
    | ok d S' =>
      obtain ⟨_, _, _, _, _, _, _, _, _, _, _, _, C, fs, S', q', _⟩ := hq
      rw [q] at q'; cases q'
    | exc C fs S' =>
      refine hp.2 C fs S' q e s' (XE.of_call I (fun cls d H' w => ?_) hq)
      obtain ⟨C', fs', S'', q', w⟩ := w
      rw [q] at q'; cases q'
      exact ⟨rfl, w⟩
  | ok fl =>
    cases fl with
    | ret u =>
      obtain ⟨v, H', I', rv, d, S', q, m', e, x', w⟩ := I.after hq
      exact ⟨d, S', q, v, H', m', I', rv, e, x', w⟩
    | next => exact False.elim hq
    | brk => exact False.elim hq
    | cont => exact False.elim hq
/-- what is bound: the values by place, the keywords', those by default -/
def kwF (n m : Nat) (g : F) (pk : List Nat) (dd : List D) (ds es : List D) (S : Sto) : R D := if ds.length = n ∧ es.length = m then g (pick pk (ds ++ es ++ dd)) S else .bad
def lCallK (n m : Nat) (g : F) (pk : List Nat) (dd : List D) (t tk : LA) : LE := fun ρ S => (t ρ S).bind fun ds S1 => (tk ρ S1).bind fun es S2 => kwF n m g pk dd ds es S2
theorem pel_callKw0 {pk : List Nat} {ds0 : List Value} {dvs : List V} {dd : List D} (Fn : FnL X.prog X.w X.K X.mg X.base k f fd ps g) (hr : Room k X.A) (hg : Gl X x) (hm : X.mg x = some (.ref f)) (hk : PySem.W.keepIn X.K (.ref f) = true) (hb : KwB X.K fd ps 0 ks pk ds0) (hd : Dfl X.K dvs ds0 dd)
    (hkw : PKL X kws tk) (hall : (backToKw pos (keywordEach kws X.env)).all (·.1.isSome) = true := by rfl) (hks : (backToKw pos (keywordEach kws X.env)).filterMap (·.1) = ks := by rfl)
    (hdb : (x == ("__debug__" : Str)) = false := by decide)
    (hpl : ((backTo pos (starEach [] X.env)).any (·.1) || (backToKw pos (keywordEach kws X.env)).any (·.1.isNone)) = false := by rfl) :
    PEL X (.Call (.Name x p) [] kws pos) (lCallK 0 ks.length g pk dd aNil tk) := by
  refine ⟨fun pins s σ H m ρ S I x r hp => ?_⟩
  refine wpAny_Call_Name_kw (ld_glob I hg hm ?_ hdb)
  refine PySem.W.callWith_KW0 (h₀ := X.base) I.ok.mod.kin hk hall ?_ hpl
  have hp1 : Hope X σ m H ((tk ρ S).bind fun es S2 => kwF 0 ks.length g pk dd [] es S2) := hp
  refine thn (hkw.run pos pins s σ H m ρ S I x r (hope_seq hp1)) fun ws s2 ⟨zs, S2, zv, H2, m2, q2, I2, rv2, e2, x2, w2⟩ => ⟨I2.kIn, ?_⟩
  rw [q2] at hp1
  have hp2 : Hope X σ m2 H2 (kwF 0 ks.length g pk dd [] zs S2) := hp1.ext e2
  have hl := hope_if hp2
  unfold kwF at hp2
  rw [if_pos hl] at hp2
  have e0 : lCallK 0 ks.length g pk dd aNil tk ρ S = g (pick pk ([] ++ zs ++ dd)) S2 := by
    show ((tk ρ S).bind fun es S2 => kwF 0 ks.length g pk dd [] es S2) = _
    rw [q2, bind_ok]; unfold kwF; rw [if_pos hl]
  rw [e0, hks]
  have l2 : ws.length = ks.length := by rw [← rv2.length, w2.length]; exact hl.2
  have r3 : Vals ([] ++ zv ++ dvs) ([] ++ ws ++ ds0) := ((show Vals ([] : List V) [] from .nil).append rv2).append hd.vals
  refine thn (run_fnK (args := ⟨[], ks.zip ws⟩) Fn hr (hb.to s2 [] ws I2.kIn rfl l2) I2 x2 (vals_pick r3 pk) (((VRs.nil.append w2).append (hd.rel _ _)).pick pk) (hb.len _ ?_) hp2) fun _ _ z => z.left e2
  rw [r3.length, List.length_append, List.length_append, l2]
  rfl
theorem run_makeK {pins : List (Addr × Obj)} {σ : L2.St} {H : Hp} {s : Shared} {us : List Value} {kwv : List (Str × Value)} {full : List Value → List Value} {vs : List V} {m : List Addr} {S : Sto} {ds : List D} {gn : F} {fv : List V → List V} {fdd : List D → List D} (M : Mk X.K C f) (Fn : FnL X.prog X.w X.K X.mg X.base k f fd ps g) (hr : Room (k + 1) X.A)
    (hb : ∀ s a, X.K.In s.heap → BindsTo s fd ⟨.ref a :: us, kwv⟩ (ps.zip (full [.ref a]))) (hv : ∀ a, Vals (fv [.ref a]) (full [.ref a])) (hds : ∀ a n m H, VR X.K m H (.ref a) (.ref n) → VRs X.K m H vs ds → VRs X.K m H (fv [.ref a]) (fdd [.ref n])) (hlen : ∀ a, (fv [.ref a]).length = ps.length)
    (I : Inv X pins σ H s) (x : SR X.K m H S) (rd : VRs X.K m H vs ds) (hg : RLe S (gn ds S) ((g (fdd [.ref S.length]) (S ++ [.ins C []])).bind fun d S1 => match d with
      | .non => .ok (.ref S.length) S1
      | _ => .bad)) (hp : Hope X σ m H (gn ds S)) :
    wpAny (model X.prog X.w) X.A (call (.ref C) us kwv) (VPr X pins σ m H (gn ds S)) X.xe s := by
  obtain ⟨pd, hpd⟩ : ∃ a, a = s.heap.objs.size := ⟨_, rfl⟩
  obtain ⟨pa, hpa⟩ : ∃ a, a = s.heap.objs.size + 1 := ⟨_, rfl⟩
  have n1 : H pa = none := hpa ▸ I.hok.fresh (Nat.le_succ _)
  have n2 : H pd = none := hpd ▸ I.hok.fresh (Nat.le_refl _)
  have ne : pa ≠ pd := by omega
  have I2 := Inv.made (C := C) I
  rw [← hpa, ← hpd] at I2
  have n1' : (upd H pd (.own pa)) pa = none := by rw [upd_ne ne]; exact n1
  have x1 : SR X.K m (upd H pd (.own pa)) S := x.fresh n2
  have E1 : Ext m H m (upd H pd (.own pa)) := Ext.fresh n2
  obtain ⟨E2, x2⟩ := x1.snoc (o := .ins C pd []) (ob := .ins C []) n1' fun m' H' _ q => .ins q .nil
  have E3 := E1.trans E2
  have rd2 := hds pa S.length (m ++ [pa]) (upd (upd H pd (.own pa)) pa (.ins C pd [])) (.ref (by rw [← x.len]; simp)) (rd.ext E3 x.muts)
  generalize hG : g (fdd [.ref S.length]) (S ++ [.ins C []]) = G at hg
  have nb : G ≠ .bad := fun z => by
    rw [z] at hg
    generalize gn ds S = A at hg hp
    cases hg with
    | bad => exact hp.1 rfl
    | refl => exact hp.1 rfl
  have hsp : spL X.K g ps.length (fv [.ref pa]) (upd (upd H pd (.own pa)) pa (.ins C pd [])) (fun v H' => ∃ d S', G = .ok d S' ∧ QV X.K (m ++ [pa]) (upd (upd H pd (.own pa)) pa (.ins C pd [])) S' d v H')
      (fun cls d H' => ∃ C' fs S', G = .exc C' fs S' ∧ WL X.K (m ++ [pa]) (upd (upd H pd (.own pa)) pa (.ins C pd [])) C' fs S' cls d H') := by
    refine ⟨hlen pa, _, _, _, x2, rd2, ?_, ?_, ?_⟩
    · rw [hG]; exact nb
    · intro d S' q v H' z
      rw [hG] at q
      exact ⟨d, S', q, z⟩
    · intro C' fs S' q cls d H' z
      rw [hG] at q
      exact ⟨C', fs, S', q, z⟩
  refine wpAny_call (make_map (f := f) I.kIn M.makes M.init (beq_iff_eq.mp M.fn) ?_)
  rw [← hpa, ← hpd]
  refine codeAny_mono (Fn.run _ X.stack _ _ ⟨Value.ref pa :: us, kwv⟩ _ _ _ _ (hr.make C us kwv) (I2.env0.make C us kwv) (hb _ pa I2.kIn) (hv pa) hsp) fun r s' hq => ?_
  cases r with
  | error e =>
    obtain ⟨C', fs, S', q, w0⟩ : ∃ C' fs S', G = .exc C' fs S' ∧ XE X (fun cls d σ' H' => σ' = σ ∧ WL X.K m H C' fs S' cls d H') e s' := by
      have hx := XE.of_call (W := fun cls d σ' H' => σ' = σ ∧ ∃ C' fs S', G = .exc C' fs S' ∧ WL X.K m H C' fs S' cls d H') I2 (fun cls d H' w => by
        obtain ⟨C', fs, S', q, w⟩ := w
        exact ⟨rfl, C', fs, S', q, w.ext E3⟩) hq
      obtain ⟨_, _, _, _, _, _, _, _, _, _, _, _, _, _, _, _, _, C', fs, S', q, _⟩ := id hx
      refine ⟨C', fs, S', q, XE.imp hx fun cls d σ' H' w => ?_⟩
      obtain ⟨w1, C2, fs2, S2, q2, w2⟩ := w
      rw [q] at q2
      cases q2
      exact ⟨w1, w2⟩
    subst q
    dsimp only [R.bind] at hg
    generalize hA : gn ds S = A at hg hp
    cases hg with
    | bad => exact absurd rfl hp.1
    | refl => exact hp.2 _ _ _ rfl e s' w0
    | gcx _ _ _ h b => exact hp.2 _ _ _ rfl e s' (XE.imp w0 fun cls d σ' H' w => ⟨w.1, wl_gc x w.2 h b⟩)
  | ok fl =>
    cases fl with
    | ret u =>
      obtain ⟨v, H', I3, rv, d, S', q, m', e', x', w'⟩ := I2.after hq
      subst q
      have hn : d = .non := by
        cases d with
        | non => rfl
        | _ =>
          dsimp only [R.bind] at hg
          generalize gn ds S = A at hg hp
          cases hg with
          | bad => exact absurd rfl hp.1
          | refl => exact absurd rfl hp.1
      subst hn
      cases w'
      obtain rfl : u = Value.none := rv
      have qv : QV X.K m H S' (.ref S.length) (.ref pa) H' := ⟨m', E3.trans e', x', .ref (e'.get (by rw [← x.len]; simp))⟩
      refine ⟨rfl, ?_⟩
      dsimp only [R.bind] at hg
      generalize hA : gn ds S = A at hg hp
      cases hg with
      | bad => exact absurd rfl hp.1
      | refl =>
        obtain ⟨m2, z1, z2, z3⟩ := qv
        exact ⟨_, _, rfl, .ref pa, H', m2, I3, rfl, z1, z2, z3⟩
      | gc _ _ _ h e b =>
        subst e
        obtain ⟨m2, z1, z2, z3⟩ := qv_gc x qv h b
        exact ⟨_, _, rfl, .ref pa, H', m2, I3, rfl, z1, z2, z3⟩
    | next => exact False.elim hq
    | brk => exact False.elim hq
    | cont => exact False.elim hq
/-- C(k = v, ..): the values in the order of __init__'s parameters behind self; pk: where they stand, self being 0 -/
def kwM (m : Nat) (gn : F) (es : List D) (S : Sto) : R D := if es.length = m then gn es S else .bad
theorem pel_makeKw0 {pk : List Nat} {ds0 : List Value} {dvs : List V} {dd : List D} {gm : F} (M : Mk X.K C f) (Fn : FnL X.prog X.w X.K X.mg X.base k f fd ps g) (hr : Room (k + 1) X.A) (hg : Gl X x) (hm : X.mg x = some (.ref C)) (hb : KwB X.K fd ps 1 ks pk ds0) (hd : Dfl X.K dvs ds0 dd)
    (hgm : ∀ es S, es.length = ks.length → RLe S (gm es S) ((g (pick pk (.ref S.length :: es ++ dd)) (S ++ [.ins C []])).bind fun d S1 => match d with
      | .non => .ok (.ref S.length) S1
      | _ => .bad))
    (hkw : PKL X kws tk) (hall : (backToKw pos (keywordEach kws X.env)).all (·.1.isSome) = true := by rfl) (hks : (backToKw pos (keywordEach kws X.env)).filterMap (·.1) = ks := by rfl)
    (hdb : (x == ("__debug__" : Str)) = false := by decide)
    (hpl : ((backTo pos (starEach [] X.env)).any (·.1) || (backToKw pos (keywordEach kws X.env)).any (·.1.isNone)) = false := by rfl) :
    PEL X (.Call (.Name x p) [] kws pos) (fun ρ S => (tk ρ S).bind fun es S2 => kwM ks.length gm es S2) := by
  refine ⟨fun pins s σ H m ρ S I x r hp => ?_⟩
  refine wpAny_Call_Name_kw (ld_glob I hg hm ?_ hdb)
  refine PySem.W.callWith_KW0 (h₀ := X.base) I.ok.mod.kin M.kp hall ?_ hpl
  refine thn (hkw.run pos pins s σ H m ρ S I x r (hope_seq hp)) fun ws s2 ⟨zs, S2, zv, H2, m2, q2, I2, rv2, e2, x2, w2⟩ => ⟨I2.kIn, ?_⟩
  rw [q2] at hp ⊢
  have hp2 : Hope X σ m2 H2 (kwM ks.length gm zs S2) := hp.ext e2
  have hl := hope_if hp2
  unfold kwM at hp2
  rw [if_pos hl] at hp2
  have e0 : ((R.ok zs S2).bind fun es S2 => kwM ks.length gm es S2) = gm zs S2 := by show kwM ks.length gm zs S2 = _; unfold kwM; rw [if_pos hl]
  rw [e0, hks]
  have l2 : ws.length = ks.length := by rw [← rv2.length, w2.length]; exact hl
  refine thn (run_makeK (us := []) (kwv := ks.zip ws) (full := fun a => pick pk (a ++ ws ++ ds0)) (vs := zv) (ds := zs) (fv := fun a => pick pk (a ++ zv ++ dvs)) (fdd := fun n => pick pk (n ++ zs ++ dd)) (gn := gm) M Fn hr (fun s a hi => hb.to s [.ref a] ws hi rfl l2)
    (fun a => vals_pick (((show Vals [V.ref a] [Value.ref a] from .cons rfl .nil).append rv2).append hd.vals) pk) (fun a n m H h r => (((VRs.cons h .nil).append r).append (hd.rel _ _)).pick pk) (fun a => hb.len _ ?_) I2 x2 w2 (hgm zs S2 hl) hp2) fun _ _ z => z.left e2
  rw [List.length_append, List.length_append, rv2.length, l2, hd.vals.length]
  rfl
end
end MP

namespace MP
open PySem PySem.Spec PyProof.Rows L2
section
variable {X : Cx}
def gAdd : G2 := fun S x y => ((gAddI S x y).or (gAddS S x y)).or (gCat S x y)
theorem opl_add : OpL X (binaryOp .Add) gAdd := (opl_addI.or opl_addS).or opl_catT
end
end MP

namespace MP
open PySem PySem.Spec PyProof.Rows L2
theorem lg_lt {i : Int} {k : Nat} (h : i.natAbs < 2 ^ k) (hk : 0 < k) : i.natAbs.log2 < k := by
  by_cases z : i.natAbs = 0
  · rw [z]; simpa using hk
  · exact (Nat.log2_lt z).mpr h
theorem abs_lt {i : Int} {n : Nat} (h1 : -(n : Int) < i) (h2 : i < n) : i.natAbs < n := by omega
/-- a number of at most 600 figures -/
def Sm (i : Int) : Prop := -(10 ^ 250) < i ∧ i < 10 ^ 250
theorem Sm.lg {i : Int} (h : Sm i) : i.natAbs.log2 < 900 := by
  refine lg_lt (Nat.lt_of_lt_of_le (abs_lt (n := 10 ^ 250) ?_ ?_) (by decide +kernel)) (by decide)
  · have := h.1; simpa using this
  · have := h.2; simpa using this
theorem Sm.of {i : Int} (h0 : 0 ≤ i) {n : Int} (h1 : i < n) (hn : n ≤ 10 ^ 250) : Sm i := by
  have : (0 : Int) < 10 ^ 250 := by decide +kernel
  exact ⟨by omega, by omega⟩
theorem mul_ii {S : Sto} {i j : Int} (h : Sm i) (h' : Sm j) : gMulI S (.int i) (.int j) = some (.int (i * j)) := by
  have a := h.lg
  have b := h'.lg
  show (if i.natAbs.log2 + j.natAbs.log2 < 1000000 then some (D.int (i * j)) else none) = _
  rw [if_pos (by omega)]
theorem div_ii {S : Sto} {i j : Int} (h0 : 0 < j) (h : Sm j) : gDiv S (.int i) (.int j) = some (.int (i / j)) := by
  have a := h.lg
  show (if 0 < j ∧ j.natAbs.log2 < 9000 then some (D.int (i / j)) else none) = _
  rw [if_pos ⟨h0, by omega⟩]
theorem mod_ii {S : Sto} {i j : Int} (h0 : 0 < j) : gMod S (.int i) (.int j) = some (.int (i % j)) := by
  show (if 0 < j then some (D.int (i % j)) else none) = _
  rw [if_pos h0]
theorem pow_ii {S : Sto} {i j : Int} (h : 0 ≤ j ∧ j ≤ 1000000 ∧ i.natAbs < 2 ^ 64) : gPow S (.int i) (.int j) = some (.int (i ^ j.toNat)) := by
  show (if 0 ≤ j ∧ j ≤ 1000000 ∧ i.natAbs < 2 ^ 64 then some (D.int (i ^ j.toNat)) else none) = _
  rw [if_pos h]
theorem eq_ii {S : Sto} {i j : Int} : gEq S (.int i) (.int j) = some (.bl (decide (i = j))) := rfl
theorem ne_ii {S : Sto} {i j : Int} : gNe S (.int i) (.int j) = some (.bl (!decide (i = j))) := rfl
theorem eq_ss {S : Sto} {i j : Str} : gEq S (.str i) (.str j) = some (.bl (decide (i = j))) := rfl
theorem ne_ss {S : Sto} {i j : Str} : gNe S (.str i) (.str j) = some (.bl (!decide (i = j))) := rfl
/-! ### how the words compute -/
theorem bin_ok {g : G2} {la lb : LE} {ρ : Ev} {S S1 S2 : Sto} {x y d : D} (h1 : la ρ S = .ok x S1) (h2 : lb ρ S1 = .ok y S2) (h3 : g S2 x y = some d) : lBin g la lb ρ S = .ok d S2 := by
  unfold lBin; rw [h1, bind_ok, h2, bind_ok, h3]; rfl
theorem tru_ok {l : LE} {ρ : Ev} {S S1 : Sto} {d : D} {b : Bool} (h1 : l ρ S = .ok d S1) (h2 : truth S1 d = some b) : tTru l ρ S = .ok b S1 := by
  unfold tTru; rw [h1, bind_ok, h2]; rfl
theorem acons_ok {l : LE} {t : LA} {ρ : Ev} {S S1 S2 : Sto} {d : D} {ds : List D} (h1 : l ρ S = .ok d S1) (h2 : t ρ S1 = .ok ds S2) : aCons l t ρ S = .ok (d :: ds) S2 := by
  unfold aCons; rw [h1, bind_ok, h2]; rfl
theorem callb_ok {g : GC} {t : LA} {ρ : Ev} {S S1 : Sto} {d : D} {ds : List D} (h1 : t ρ S = .ok ds S1) (h2 : g S1 ds = some d) : lCallB g t ρ S = .ok d S1 := by
  unfold lCallB; rw [h1, bind_ok, h2]; rfl
theorem call_ok {g : F} {n : Nat} {t : LA} {ρ : Ev} {S S1 : Sto} {ds dd : List D} {r : R D} (h1 : t ρ S = .ok ds S1) (h2 : ds.length + dd.length = n) (h3 : g (ds ++ dd) S1 = r) : lCall n g dd t ρ S = r := by
  unfold lCall; rw [h1, bind_ok, if_pos h2, h3]
theorem tup_ok {t : LA} {ρ : Ev} {S S1 : Sto} {ds : List D} (h1 : t ρ S = .ok ds S1) (h : ds.length ≤ 1000) : lTup t ρ S = .ok (.tup ds) S1 := by
  unfold lTup; rw [h1, bind_ok, if_pos (Nat.le_trans h (by decide))]
theorem lst_ok {t : LA} {ρ : Ev} {S S1 : Sto} {ds : List D} (h1 : t ρ S = .ok ds S1) (h : ds.length ≤ 1000) : lLst t ρ S = .ok (.lst ds) S1 := by
  unfold lLst; rw [h1, bind_ok, if_pos (Nat.le_trans h (by decide))]
theorem lstN_ok {t : LA} {ρ : Ev} {S S1 : Sto} {ds : List D} (h1 : t ρ S = .ok ds S1) (h : ds.length ≤ 1000) : lLstN t ρ S = .ok (.ref S1.length) (S1 ++ [.lst ds]) := by
  unfold lLstN; rw [h1, bind_ok, if_pos (Nat.le_trans h (by decide))]
theorem fld_ok {C : Addr} {f : Str} {l : LE} {ρ : Ev} {S S1 : Sto} {d e : D} (h1 : l ρ S = .ok d S1) (h2 : gFld C f S1 d = some e) : lFld C f l ρ S = .ok e S1 := by
  unfold lFld; rw [h1, bind_ok, h2]; rfl
theorem set_ok {i : Nat} {l : LE} {ρ : Ev} {S S1 : Sto} {d : D} (h : l ρ S = .ok d S1) : lSet i l ρ S = .ok (.nx (ρ.set i (some d))) S1 := by
  unfold lSet; rw [h]; rfl
theorem ret_ok {l : LE} {ρ : Ev} {S S1 : Sto} {d : D} (h : l ρ S = .ok d S1) : lRet l ρ S = .ok (.rt d) S1 := by
  unfold lRet; rw [h]; rfl
theorem expr_ok {l : LE} {ρ : Ev} {S S1 : Sto} {d : D} (h : l ρ S = .ok d S1) : lExpr l ρ S = .ok (.nx ρ) S1 := by
  unfold lExpr; rw [h]; rfl
theorem seq_nx {l1 l2 : LS} {ρ ρ' : Ev} {S S1 : Sto} {r : R Fl} (h : l1 ρ S = .ok (.nx ρ') S1) (h2 : l2 ρ' S1 = r) : lSeq l1 l2 ρ S = r := by
  unfold lSeq; rw [h, bind_ok]; exact h2
theorem seq_rt {l1 l2 : LS} {ρ : Ev} {S S1 : Sto} {d : D} (h : l1 ρ S = .ok (.rt d) S1) : lSeq l1 l2 ρ S = .ok (.rt d) S1 := by
  unfold lSeq; rw [h, bind_ok]; rfl
theorem if_tt {tc : LT} {l1 l2 : LS} {ρ : Ev} {S S1 : Sto} {r : R Fl} (h : tc ρ S = .ok true S1) (h2 : l1 ρ S1 = r) : lIfS tc l1 l2 ρ S = r := by
  unfold lIfS; rw [h]; exact h2
theorem if_ff {tc : LT} {l1 l2 : LS} {ρ : Ev} {S S1 : Sto} {r : R Fl} (h : tc ρ S = .ok false S1) (h2 : l2 ρ S1 = r) : lIfS tc l1 l2 ρ S = r := by
  unfold lIfS; rw [h]; exact h2
theorem par_ok {i j : Nat} {t : LA} {ρ : Ev} {S S1 : Sto} {a b : D} (h : t ρ S = .ok [a, b] S1) : lPar i j t ρ S = .ok (.nx ((ρ.set i (some a)).set j (some b))) S1 := by
  unfold lPar; rw [h]; rfl
theorem stS_ok {g : Sto → D → D → D → Option Sto} {lo li le : LE} {ρ : Ev} {S S1 S2 S3 S4 : Sto} {d r k : D} (h1 : le ρ S = .ok d S1) (h2 : lo ρ S1 = .ok r S2) (h3 : li ρ S2 = .ok k S3) (h4 : g S3 r k d = some S4) : lStS g lo li le ρ S = .ok (.nx ρ) S4 := by
  unfold lStS; rw [h1]; show liftX ρ (lo ρ S1) _ = _; rw [h2]; show liftX ρ (li ρ S2) _ = _; rw [h3]; show liftS _ ρ = _; rw [h4]; rfl
theorem stF_ok {C : Addr} {f : Str} {lo le : LE} {ρ : Ev} {S S1 S2 S3 : Sto} {d r : D} (h1 : le ρ S = .ok d S1) (h2 : lo ρ S1 = .ok r S2) (h3 : stFld C f S2 r d = some S3) : lStF C f lo le ρ S = .ok (.nx ρ) S3 := by
  unfold lStF; rw [h1]; show liftX ρ (lo ρ S1) _ = _; rw [h2]; show liftS _ ρ = _; rw [h3]; rfl
theorem bm_ok {T : String} {g : GM} {lo : LE} {t : LA} {ρ : Ev} {S S1 S2 S3 : Sto} {d e : D} {ds : List D} (h1 : lo ρ S = .ok d S1) (h2 : isTy T S1 d = true) (h3 : t ρ S1 = .ok ds S2) (h4 : g S2 d ds = some (e, S3)) : lBM T g lo t ρ S = .ok e S3 := by
  unfold lBM; rw [h1, bind_ok, if_pos h2, h3, bind_ok, h4]; rfl
theorem meth_ok {C : Addr} {mn : Str} {n : Nat} {g : F} {lo : LE} {t : LA} {ρ : Ev} {S S1 S2 : Sto} {d : D} {ds dd : List D} {r : R D} (h1 : lo ρ S = .ok d S1) (h2 : recv C mn S1 d = true) (h3 : t ρ S1 = .ok ds S2) (h4 : (ds.length + dd.length) + 1 = n) (h5 : g (d :: (ds ++ dd)) S2 = r) : lMeth C mn n g dd lo t ρ S = r := by
  unfold lMeth; rw [h1, bind_ok, if_pos h2, h3, bind_ok, if_pos h4, h5]
theorem body_rt {n : Nat} {lb : LS} {ds : List D} {S S' : Sto} {d : D} (h : lb (ds.map some ++ List.replicate (n - ds.length) none) S = .ok (.rt d) S') : bodyF n lb ds S = .ok d S' := by
  unfold bodyF; rw [h]; rfl
theorem body_nx {n : Nat} {lb : LS} {ds : List D} {ρ : Ev} {S S' : Sto} (h : lb (ds.map some ++ List.replicate (n - ds.length) none) S = .ok (.nx ρ) S') : bodyF n lb ds S = .ok .non S' := by
  unfold bodyF; rw [h]; rfl
theorem and_tt {ta tb : LT} {ρ : Ev} {S S1 : Sto} {r : R Bool} (h : ta ρ S = .ok true S1) (h2 : tb ρ S1 = r) : tAnd ta tb ρ S = r := by
  unfold tAnd; rw [h, bind_ok, if_pos rfl]; exact h2
theorem and_ff {ta tb : LT} {ρ : Ev} {S S1 : Sto} (h : ta ρ S = .ok false S1) : tAnd ta tb ρ S = .ok false S1 := by
  unfold tAnd; rw [h, bind_ok]; rfl
theorem or_tt {ta tb : LT} {ρ : Ev} {S S1 : Sto} (h : ta ρ S = .ok true S1) : tOr ta tb ρ S = .ok true S1 := by
  unfold tOr; rw [h, bind_ok]; rfl
theorem or_ff {ta tb : LT} {ρ : Ev} {S S1 : Sto} {r : R Bool} (h : ta ρ S = .ok false S1) (h2 : tb ρ S1 = r) : tOr ta tb ρ S = r := by
  unfold tOr; rw [h, bind_ok]; exact h2
theorem not_ok {ta : LT} {ρ : Ev} {S S1 : Sto} {b : Bool} (h : ta ρ S = .ok b S1) : tNot ta ρ S = .ok (!b) S1 := by
  unfold tNot; rw [h, bind_ok]
theorem for_go {ρ0 ρ ρ1 ρ' : Ev} {chk : Sto → Prop} {g : GT} {lb : LS} {d : D} {ds : List D} {S S1 : Sto} {r : R Fl} (hc : chk S) (hg : g d ρ = some ρ1) (h : lb ρ1 S = .ok (.nx ρ') S1) (h2 : forG ρ0 chk g lb ds (wk ρ0 ρ') S1 = r) : forG ρ0 chk g lb (d :: ds) ρ S = r := by
  unfold forG; rw [if_pos hc, hg]; show (lb ρ1 S).bind _ = _; rw [h, bind_ok]; exact h2
theorem for_end {ρ0 ρ : Ev} {chk : Sto → Prop} {g : GT} {lb : LS} {S : Sto} (hc : chk S) : forG ρ0 chk g lb [] ρ S = .ok (.nx ρ) S := by
  unfold forG; rw [if_pos hc]
theorem comp_end {ρ0 : Ev} {chk : Sto → Prop} {g : GT} {tt : LT} {te : LE} {S : Sto} (hc : chk S) : compG chk g tt te ρ0 [] S = .ok [] S := by
  unfold compG; rw [if_pos hc]
end MP

namespace MP
open PySem PySem.Spec PyProof.Rows L2
/-! ### more of how the words compute -/
theorem tru_b {l : LE} {ρ : Ev} {S S1 : Sto} {b b' : Bool} (h : l ρ S = .ok (.bl b) S1) (e : b = b') : tTru l ρ S = .ok b' S1 := e ▸ tru_ok h rfl
theorem ix_ref {S : Sto} {j : Nat} {xs : List D} {k : Int} {d : D} (h : S[j]? = some (.lst xs)) (h2 : atI xs k = some d) : gIx S (.ref j) (.int k) = some d := by
  unfold gIx
  have e : vw S (.ref j) = .lst xs := by unfold vw; dsimp only; rw [h]
  rw [e]; exact h2
theorem sub_ok {S : Sto} {j n : Nat} {xs : List D} {k : Int} {d : D} (h : S[j]? = some (.lst xs)) (h2 : ixN xs.length k = some n) : stSeq S (.ref j) (.int k) d = some (S.set j (.lst (xs.set n d))) := by
  unfold stSeq; dsimp only; rw [h]; dsimp only; rw [h2]; rfl
theorem app_ok {S : Sto} {j : Nat} {xs : List D} {d : D} (h : S[j]? = some (.lst xs)) (h2 : xs.length < 1000) : stApp S (.ref j) [d] = some (.non, S.set j (.lst (xs ++ [d]))) := by
  unfold stApp; dsimp only; rw [h]; dsimp only; rw [if_pos (Nat.lt_of_lt_of_le h2 (by decide))]
theorem pop0_ok {S : Sto} {j : Nat} {xs : List D} {d : D} (h : S[j]? = some (.lst (d :: xs))) : stPopAt S (.ref j) [.int 0] = some (d, S.set j (.lst xs)) := by
  unfold stPopAt; dsimp only; rw [h]; dsimp only
  rw [if_pos (by decide)]
  have e : seqIndex? 0 (d :: xs).length = some 0 := by
    have := ixN_seq (n := (d :: xs).length) (i := 0) (j := 0) (by unfold ixN; rw [if_pos (by decide), if_pos (by simp)]; rfl)
    exact this.1
  rw [e]; rfl
theorem ty_lst {S : Sto} {j : Nat} {xs : List D} (h : S[j]? = some (.lst xs)) : isTy "list" S (.ref j) = true := by
  unfold isTy
  have e : vw S (.ref j) = .lst xs := by unfold vw; dsimp only; rw [h]
  rw [e]; rfl
theorem last_at {S : Sto} {o : O} : (S ++ [o])[S.length]? = some o := by simp
theorem for_ok {li : LI} {g : GT} {lb : LS} {ρ : Ev} {S S1 : Sto} {it : Its'} {r : R Fl} (h : li ρ S = .ok it S1) (h2 : forG ρ it.chk g lb it.items ρ S1 = r) : lFor li g lb ρ S = r := by
  unfold lFor; rw [h]; exact h2
theorem toPDs_int : ∀ own : List Int, toPDs (own.map D.int) = some (own.map PyData.int)
  | [] => rfl
  | x :: r => by simp [toPDs, toPD, toPDs_int r]
theorem canLay_int : ∀ own : List Int, PyData.canLayAll0 (own.map PyData.int) = true
  | [] => rfl
  | x :: r => by simp [PyData.canLayAll0, PyData.canLay0, canLay_int r]
end MP

namespace MP
open PySem PySem.Spec PyProof.Rows L2
theorem depth_int : ∀ own : List Int, PyData.depthAll (own.map PyData.int) ≤ 1
  | [] => by simp [PyData.depthAll]
  | x :: r => by
    have := depth_int r
    simp only [List.map_cons, PyData.depthAll, PyData.depth]
    omega
theorem shaped_int (own : List Int) : SeqAt.shaped (.list (own.map PyData.int)) = true := by
  unfold SeqAt.shaped
  have h := depth_int own
  have e : (PyData.list (own.map PyData.int)).depth ≤ 64 := by
    simp only [PyData.depth]
    omega
  rw [Bool.and_eq_true]
  exact ⟨by simp only [PyData.canLay0]; exact canLay_int own, decide_eq_true e⟩
theorem eqv_nil (own : List Int) : PyData.eqv (.list (own.map PyData.int)) (.list []) = own.isEmpty := by
  cases own <;> simp [PyData.eqv, PyData.eqvAll]
theorem ne_nil {S : Sto} {i : Nat} {own : List Int} (h : S[i]? = some (.lst (own.map D.int))) : gNe S (.ref i) (.lst []) = some (.bl (!own.isEmpty)) := by
  have e : vw S (.ref i) = .lst (own.map D.int) := by unfold vw; dsimp only; rw [h]
  have e2 : eqP S (.ref i) (.lst []) = some own.isEmpty := by
    unfold eqP
    rw [e]
    have e3 : toPD (.lst (own.map D.int)) = some (.list (own.map PyData.int)) := by simp [toPD, toPDs_int]
    have e4 : toPD (vw S (.lst [])) = some (.list []) := by rfl
    rw [e3, e4]
    show (if SeqAt.shaped (.list (own.map PyData.int)) = true ∧ SeqAt.shaped (.list []) = true then some (PyData.eqv (.list (own.map PyData.int)) (.list [])) else none) = _
    rw [if_pos ⟨shaped_int own, shaped_int []⟩, eqv_nil]
  unfold gNe eqD
  rw [e2]
  rfl

/-! ### the law's own draws: the pot -/
def Pot (n : Int) (S : Sto) (d : D) : Prop := ∃ (j i : Nat) (own : List Int) (seed cnt : Int), d = .ref j ∧ i ≠ j ∧ S[j]? = some (.lst [.ref i, .int seed, .int cnt]) ∧ S[i]? = some (.lst (own.map D.int)) ∧ own.length ≤ 63 ∧ (∀ z ∈ own, 0 ≤ z ∧ z < 10 ^ 120) ∧ 0 ≤ seed ∧ seed < 10 ^ 30 ∧ 0 ≤ cnt ∧ cnt ≤ n
theorem Pot.mono {n n' : Int} {S : Sto} {d : D} (h : Pot n S d) (hn : n ≤ n') : Pot n' S d := by
  obtain ⟨j, i, own, seed, cnt, h1, h2, h3, h4, h5, h6, h7, h8, h9, h10⟩ := h
  exact ⟨j, i, own, seed, cnt, h1, h2, h3, h4, h5, h6, h7, h8, h9, by omega⟩
def SBegin (g : F) : Prop := ∀ (S : Sto) (ns : List Int), ns.length ≤ 63 → ∃ d S', g [.lst (ns.map D.int)] S = .ok d S' ∧ Pot 0 S' d
def STake (g : F) : Prop := ∀ (n : Int) (S : Sto) (d : D) (wd : Int), Pot n S d → n < 10 ^ 30 → 0 < wd → wd < 10 ^ 200 → ∃ v S', g [d, .int wd] S = .ok (.int v) S' ∧ 0 ≤ v ∧ v < wd ∧ Pot (n + 1) S' d
def SOf (g : F) : Prop := ∀ (n : Int) (S : Sto) (d : D) (xs : List D), Pot n S d → n < 10 ^ 30 → xs ≠ [] → xs.length ≤ 1000 → ∃ y S', y ∈ xs ∧ g [d, .lst xs] S = .ok y S' ∧ Pot (n + 1) S' d
/-- the draws begin -/
def begStep : LS := (lSeq
              (lSet 1
                (lBin gMod
                  (lBin gAdd
                    (lBin gAdd (lBin gMulI (lVar 1) (lC (D.int 1000003)))
                      (lBin gMod (lVar 4) (lBin gPow (lC (D.int 10)) (lC (D.int 30)))))
                    (lBin gMulI (lC (D.int 31)) (lVar 3)))
                  (lC (D.int 2305843009213693951))))
              (lIfS (tTru (lBin gGeI (lCallB gAbs (aCons (lVar 4) aNil)) (lBin gPow (lC (D.int 10)) (lC (D.int 18)))))
                (lExpr
                  (lBM "list" stApp (lVar 2)
                    (aCons
                      (lBin gMod (lCallB gAbs (aCons (lVar 4) aNil))
                        (lBin gMulI (lBin gPow (lC (D.int 10)) (lC (D.int 60)))
                          (lBin gPow (lC (D.int 10)) (lC (D.int 60)))))
                      aNil)))
                lNext))
def begG : GT := gtTup 2 (gtCons (gtName 3) (gtCons (gtName 4) gtNil))
/-! ### a draw -/
def tkT : LT := (MP.tAnd (tTru (lBin gNe (lBin gIx (lVar 0) (lC (D.int 0))) (lLst aNil)))
            (tTru (lBin gEq (lBin gIx (lBin gIx (lVar 0) (lC (D.int 0))) (lC (D.int 0))) (lC (D.int 0)))))
def tkB : LS := (lExpr (lBM "list" stPopAt (lBin gIx (lVar 0) (lC (D.int 0))) (aCons (lC (D.int 0)) aNil)))
theorem ix0 {n : Nat} : ixN (n + 1) 0 = some 0 := by unfold ixN; rw [if_pos (by decide), if_pos (by omega)]; rfl
theorem at0 {x : D} {xs : List D} : atI (x :: xs) 0 = some x := by unfold atI; rw [List.length_cons, ix0]; rfl
end MP

namespace MP
open PySem PySem.Spec PyProof.Rows L2
theorem iter_ok {l : LE} {ρ : Ev} {S S1 : Sto} {d : D} {it : Its'} (h : l ρ S = .ok d S1) (h2 : iterOf S1 d = some it) : lIter l ρ S = .ok it S1 := by
  unfold lIter; rw [h, bind_ok, h2]; rfl
end MP

namespace MP
open PySem PySem.Spec PyProof.Rows L2

/-! ### dicts -/
def keyOf : D → Option Key
  | .int i => some (.inl i)
  | .str s => some (.inr s)
  | _ => none
def keysOf : List D → Option (List Key)
  | [] => some []
  | x :: r => (keyOf x).bind fun k => (keysOf r).map fun ks => k :: ks
/-- a key of a dict; t: its keys are tuples -/
def kOf (t : Bool) (d : D) : Option (List Key) := match t with
  | false => (keyOf d).map fun k => [k]
  | true => match d with
    | .tup xs => keysOf xs
    | _ => none
def kD (t : Bool) (ks : List Key) : D := match t with
  | false => match ks with
    | k :: _ => keyD k
    | [] => .non
  | true => .tup (ks.map keyD)
def lookD (t : Bool) : List (D × D) → List Key → Option D
  | [], _ => none
  | (x, d) :: r, ks => if kOf t x = some ks then some d else lookD t r ks
def putDD (t : Bool) (kvs : List (D × D)) (ks : List Key) (d : D) : List (D × D) := if (lookD t kvs ks).isSome = true then kvs.map (fun q => if kOf t q.1 = some ks then (q.1, d) else q) else kvs ++ [(kD t ks, d)]
theorem keyOf_keyD (k : Key) : keyOf (keyD k) = some k := by cases k <;> rfl
theorem keysOf_map : ∀ ks : List Key, keysOf (ks.map keyD) = some ks
  | [] => rfl
  | k :: ks => by simp [keysOf, keyOf_keyD, keysOf_map ks]
theorem keyOf_inv {d : D} {k : Key} (h : keyOf d = some k) : d = keyD k := by
  cases d <;> simp only [keyOf] at h <;> cases h <;> rfl
theorem keysOf_inv : ∀ {ds : List D} {ks : List Key}, keysOf ds = some ks → ds = ks.map keyD
  | [], ks, h => by simp only [keysOf] at h; cases h; rfl
  | x :: r, ks, h => by
    simp only [keysOf] at h
    cases q : keyOf x with
    | none => rw [q] at h; cases h
    | some k =>
      rw [q] at h
      cases q2 : keysOf r with
      | none => rw [q2] at h; cases h
      | some ks' =>
        rw [q2] at h
        cases h
        rw [keyOf_inv q, keysOf_inv q2]
        rfl
section
variable {K : PySem.W.Frag} {m : List Addr} {H : Hp}
theorem VR.key {v : V} {d : D} {k : Key} (r : VR K m H v d) (h : keyOf d = some k) : v = kV k := by
  have e := keyOf_inv h
  subst e
  cases k with
  | inl i => cases r; rfl
  | inr s => cases r; rfl
theorem VRs.keys : ∀ {vs : List V} {ks : List Key}, VRs K m H vs (ks.map keyD) → vs = ks.map kV
  | _, [], .nil => rfl
  | _, k :: ks, .cons h r => by rw [h.key (keyOf_keyD k), r.keys]; rfl
theorem kf1 {k k' : Key} : kOf false (keyD k') = some [k] ↔ k' = k := by
  show (keyOf (keyD k')).map (fun k => [k]) = some [k] ↔ _
  rw [keyOf_keyD]
  simp
theorem kf2 {k k' : List Key} : kOf true (.tup (k'.map keyD)) = some k ↔ k' = k := by
  show keysOf (k'.map keyD) = some k ↔ _
  rw [keysOf_map]
  simp
theorem VDk.look {vs : List (Key × V)} {ds : List (D × D)} (r : VDk K m H vs ds) (k : Key) : (∀ d, lookD false ds [k] = some d → ∃ v, valV vs k = some v ∧ VR K m H v d) ∧ (lookD false ds [k] = none → valV vs k = none) := by
  induction vs generalizing ds with
  | nil => cases r; exact ⟨fun d h => by simp [lookD] at h, fun _ => rfl⟩
  | cons p vs ih =>
    cases r with
    | @cons k' v d vs ds h r =>
      simp only [lookD]
      by_cases e : k' = k
      · rw [if_pos (kf1.mpr e), valV_pos (p := (k', v)) e]
        exact ⟨fun d' z => by cases z; exact ⟨v, rfl, h⟩, fun z => by cases z⟩
      · rw [if_neg (fun z => e (kf1.mp z)), valV_neg (p := (k', v)) e]
        exact ih r
theorem VDt.look {vs : List (List Key × V)} {ds : List (D × D)} (r : VDt K m H vs ds) (k : List Key) : (∀ d, lookD true ds k = some d → ∃ v, valV vs k = some v ∧ VR K m H v d) ∧ (lookD true ds k = none → valV vs k = none) := by
  induction vs generalizing ds with
  | nil => cases r; exact ⟨fun d h => by simp [lookD] at h, fun _ => rfl⟩
  | cons p vs ih =>
    cases r with
    | @cons k' v d vs ds h r =>
      simp only [lookD]
      by_cases e : k' = k
      · rw [if_pos (kf2.mpr e), valV_pos (p := (k', v)) e]
        exact ⟨fun d' z => by cases z; exact ⟨v, rfl, h⟩, fun z => by cases z⟩
      · rw [if_neg (fun z => e (kf2.mp z)), valV_neg (p := (k', v)) e]
        exact ih r
theorem VDk.some_iff {vs : List (Key × V)} {ds : List (D × D)} (r : VDk K m H vs ds) (k : Key) : (lookD false ds [k]).isSome = (valV vs k).isSome := by
  obtain ⟨h1, h2⟩ := r.look k
  cases q : lookD false ds [k] with
  | none => rw [h2 q]; rfl
  | some d => obtain ⟨v, e, _⟩ := h1 d q; rw [e]; rfl
theorem VDt.some_iff {vs : List (List Key × V)} {ds : List (D × D)} (r : VDt K m H vs ds) (k : List Key) : (lookD true ds k).isSome = (valV vs k).isSome := by
  obtain ⟨h1, h2⟩ := r.look k
  cases q : lookD true ds k with
  | none => rw [h2 q]; rfl
  | some d => obtain ⟨v, e, _⟩ := h1 d q; rw [e]; rfl
theorem VDk.mapP {v : V} {d : D} (k : Key) (h : VR K m H v d) : ∀ {vs : List (Key × V)} {ds : List (D × D)}, VDk K m H vs ds → VDk K m H (vs.map fun kv => if kv.1 = k then (kv.1, v) else kv) (ds.map fun q => if kOf false q.1 = some [k] then (q.1, d) else q)
  | _, _, .nil => .nil
  | _, _, @VDk.cons _ _ _ k' w e vs ds h' r => by
    simp only [List.map_cons]
    by_cases z : k' = k
    · rw [if_pos z, if_pos (kf1.mpr z)]; exact .cons h (r.mapP k h)
    · rw [if_neg z, if_neg (fun y => z (kf1.mp y))]; exact .cons h' (r.mapP k h)
theorem VDt.mapP {v : V} {d : D} (k : List Key) (h : VR K m H v d) : ∀ {vs : List (List Key × V)} {ds : List (D × D)}, VDt K m H vs ds → VDt K m H (vs.map fun kv => if kv.1 = k then (kv.1, v) else kv) (ds.map fun q => if kOf true q.1 = some k then (q.1, d) else q)
  | _, _, .nil => .nil
  | _, _, @VDt.cons _ _ _ k' w e vs ds h' r => by
    simp only [List.map_cons]
    by_cases z : k' = k
    · rw [if_pos z, if_pos (kf2.mpr z)]; exact .cons h (r.mapP k h)
    · rw [if_neg z, if_neg (fun y => z (kf2.mp y))]; exact .cons h' (r.mapP k h)
theorem VDk.snoc {v : V} {d : D} (k : Key) (h : VR K m H v d) : ∀ {vs : List (Key × V)} {ds : List (D × D)}, VDk K m H vs ds → VDk K m H (vs ++ [(k, v)]) (ds ++ [(keyD k, d)])
  | _, _, .nil => .cons h .nil
  | _, _, .cons h' r => .cons h' (r.snoc k h)
theorem VDt.snoc {v : V} {d : D} (k : List Key) (h : VR K m H v d) : ∀ {vs : List (List Key × V)} {ds : List (D × D)}, VDt K m H vs ds → VDt K m H (vs ++ [(k, v)]) (ds ++ [(.tup (k.map keyD), d)])
  | _, _, .nil => .cons h .nil
  | _, _, .cons h' r => .cons h' (r.snoc k h)
theorem VDk.put {v : V} {d : D} (k : Key) (h : VR K m H v d) {vs : List (Key × V)} {ds : List (D × D)} (r : VDk K m H vs ds) : VDk K m H (putK vs k v) (putDD false ds [k] d) := by
  unfold putK putDD
  rw [r.some_iff k, valV_any]
  by_cases z : (valV vs k).isSome = true
  · rw [if_pos z, if_pos z]; exact r.mapP k h
  · rw [if_neg z, if_neg z]; exact r.snoc k h
theorem VDt.put {v : V} {d : D} (k : List Key) (h : VR K m H v d) {vs : List (List Key × V)} {ds : List (D × D)} (r : VDt K m H vs ds) : VDt K m H (putK vs k v) (putDD true ds k d) := by
  unfold putK putDD
  rw [r.some_iff k, valV_any]
  by_cases z : (valV vs k).isSome = true
  · rw [if_pos z, if_pos z]; exact r.mapP k h
  · rw [if_neg z, if_neg z]; exact r.snoc k h
theorem VDk.length {vs : List (Key × V)} {ds : List (D × D)} : VDk K m H vs ds → vs.length = ds.length
  | .nil => rfl
  | .cons _ r => by simp [r.length]
theorem VDt.length {vs : List (List Key × V)} {ds : List (D × D)} : VDt K m H vs ds → vs.length = ds.length
  | .nil => rfl
  | .cons _ r => by simp [r.length]
variable {S : Sto}
/-- a dict, of the store or not -/
theorem vw_dct (x : SR K m H S) {v : V} {d : D} {t : Bool} {kvs : List (D × D)} (r : VR K m H v d) (e : vw S d = .dct t kvs) : ∃ a, v = .ref a ∧ ((t = false ∧ ∃ vs, H a = some (.dK vs) ∧ VDk K m H vs kvs) ∨ (t = true ∧ ∃ vs, H a = some (.dT vs) ∧ VDt K m H vs kvs)) := by
  cases r with
  | @ref i a h =>
    dsimp only [vw] at e
    cases q : S[i]? with
    | none => rw [q] at e; cases e
    | some ob =>
      rw [q] at e
      cases x.at_ i a ob h q with
      | lst _ _ => cases e
      | ins _ _ => cases e
      | dcn _ _ => cases e
      | tab _ _ _ => cases e
      | dct h r => cases e; exact ⟨a, rfl, .inl ⟨rfl, _, h, r⟩⟩
      | dctT h r => cases e; exact ⟨a, rfl, .inr ⟨rfl, _, h, r⟩⟩
  | dct n h r => cases e; exact ⟨_, rfl, .inl ⟨rfl, _, h, r⟩⟩
  | dctT n h r => cases e; exact ⟨_, rfl, .inr ⟨rfl, _, h, r⟩⟩
  | _ => cases e
theorem dget_of (x : SR K m H S) {v y : V} {d dy : D} {t : Bool} {kvs : List (D × D)} {ks : List Key} (r : VR K m H v d) (e : vw S d = .dct t kvs) (ry : VR K m H y dy) (hk : kOf t dy = some ks) :
    ∃ a o, v = .ref a ∧ DGet H a y o ∧ (∀ d', lookD t kvs ks = some d' → ∃ v', o = some v' ∧ VR K m H v' d') ∧ (lookD t kvs ks = none → o = none) := by
  obtain ⟨a, rfl, h⟩ := vw_dct x r e
  rcases h with ⟨rfl, vs, h, rr⟩ | ⟨rfl, vs, h, rr⟩
  · simp only [kOf] at hk
    cases q : keyOf dy with
    | none => rw [q] at hk; cases hk
    | some k =>
      rw [q] at hk
      cases hk
      obtain rfl := ry.key q
      obtain ⟨h1, h2⟩ := rr.look k
      exact ⟨a, _, rfl, .k h, h1, h2⟩
  · simp only [kOf] at hk
    cases ry with
    | @tup b ws ds hb rs =>
      dsimp only at hk
      have e2 := keysOf_inv hk
      subst e2
      obtain rfl := rs.keys
      obtain ⟨h1, h2⟩ := rr.look ks
      exact ⟨a, _, rfl, .t h hb, h1, h2⟩
    | _ => cases hk
end
section
variable {X : Cx}
def gDix : G2 := fun S x y => match vw S x with
  | .dct t kvs => (kOf t y).bind fun ks => lookD t kvs ks
  | _ => none
theorem ixl_dct (hu : X.A.units + 64 < cLine) : IxL X gDix := ⟨fun value slice pins s σ H m S x y dx dy d v u I q rx ry ex ey e hs => by
  unfold gDix at e
  split at e
  · rename_i t kvs qv
    cases hk : kOf t dy with
    | none => rw [hk] at e; cases e
    | some ks =>
      rw [hk] at e
      obtain ⟨a, o, rfl, g, h1, h2⟩ := dget_of q rx qv ry hk
      obtain ⟨v', rfl, w⟩ := h1 d e
      obtain rfl : v = Value.ref a := ex
      exact tail_any (dict_typeIs I g) PySem.F.slot_dict_getitem.lookup (d_getItem (by omega) I g ey fun w' s' I' rw' => ⟨v', H, m, I', rw', Ext.refl, q, w⟩) (hs _ _)
  · cases e⟩
def gDin : G2 := fun S y x => match vw S x with
  | .dct t kvs => (kOf t y).map fun ks => .bl (lookD t kvs ks).isSome
  | _ => none
def gDnotin : G2 := fun S y x => match vw S x with
  | .dct t kvs => (kOf t y).map fun ks => .bl (!(lookD t kvs ks).isSome)
  | _ => none
theorem opl_din (hu : X.A.units + 64 < cLine) : OpL X (compareOp .In) gDin := ⟨fun pins s σ H m S y x dy dx d u v I q ry rx ey ex e => by
  unfold gDin at e
  split at e
  · rename_i t kvs qv
    cases hk : kOf t dy with
    | none => rw [hk] at e; cases e
    | some ks =>
      rw [hk] at e
      cases e
      obtain ⟨a, o, rfl, g, h1, h2⟩ := dget_of q rx qv ry hk
      obtain rfl : v = Value.ref a := ex
      have e2 : o.isSome = (lookD t kvs ks).isSome := by
        cases z : lookD t kvs ks with
        | none => rw [h2 z]; rfl
        | some d' => obtain ⟨v', rfl, _⟩ := h1 d' z; rfl
      exact d_in (by omega) I g ey fun s' I' => ⟨.bl o.isSome, H, m, I', rfl, Ext.refl, q, by rw [e2]; exact .bl _⟩
  · cases e⟩
theorem opl_dnotin (hu : X.A.units + 64 < cLine) : OpL X (compareOp .NotIn) gDnotin := ⟨fun pins s σ H m S y x dy dx d u v I q ry rx ey ex e => by
  unfold gDnotin at e
  split at e
  · rename_i t kvs qv
    cases hk : kOf t dy with
    | none => rw [hk] at e; cases e
    | some ks =>
      rw [hk] at e
      cases e
      obtain ⟨a, o, rfl, g, h1, h2⟩ := dget_of q rx qv ry hk
      obtain rfl : v = Value.ref a := ex
      have e2 : o.isSome = (lookD t kvs ks).isSome := by
        cases z : lookD t kvs ks with
        | none => rw [h2 z]; rfl
        | some d' => obtain ⟨v', rfl, _⟩ := h1 d' z; rfl
      exact d_notIn (by omega) I g ey fun s' I' => ⟨.bl (!o.isSome), H, m, I', rfl, Ext.refl, q, by rw [e2]; exact .bl _⟩
  · cases e⟩
def stDct (S : Sto) (r i d : D) : Option Sto := match r with
  | .ref j => match S[j]? with
    | some (.dct t kvs) => if kvs.length < sizeLine then (kOf t i).map fun ks => S.set j (.dct t (putDD t kvs ks d)) else none
    | _ => none
  | _ => none
/-- {} -/
def lDctN (t : Bool) : LE := fun _ S => .ok (.ref S.length) (S ++ [.dct t []])
def lDct (t : Bool) : LE := fun _ S => .ok (.dct t []) S
theorem pel_dctNT {pos : Pos} : PEL X (.Dict [] [] pos) (lDctN true) := .of_pe pe_dnewT fun σ H m ρ S x er hp p hn => by
  obtain ⟨e, x'⟩ := x.snoc (o := .dT []) (ob := .dct true []) hn fun m' H' _ q => .dctT q .nil
  exact ⟨_, _, rfl, _, e, x', .ref (by rw [← x.len]; simp)⟩
end
end MP

namespace MP
open PySem PySem.Spec PyProof.Rows L2

/-! ### sorted -/
def encD (d : D) : PyData := (toPD d).getD .none
def leD (a b : D) : Bool := PySem.W.dataLe false encD a b
def headT : PyData → Bool
  | .tuple (_ :: _) => true
  | _ => false
def plainT : PyData → Bool
  | .none => false
  | .tuple _ => false
  | _ => true
def srtOk (xs : List D) : Bool := xs.all (fun x => (toPD x).isSome) && (xs.all fun x => xs.all fun y => PySem.W.alike (encD x) (encD y)) && (xs.all (fun x => headT (encD x)) || xs.all fun x => plainT (encD x)) && xs.all (fun x => decide ((encD x).depth ≤ 50)) && decide (xs.length ≤ sizeLine)
theorem srtOk_inv {xs : List D} (h : srtOk xs = true) : (∀ x ∈ xs, toPD x = some (encD x)) ∧ PySem.W.AllAlike (xs.map encD) ∧ PySem.W.Sortable (xs.map encD) ∧ (∀ x ∈ xs, (encD x).depth ≤ 50) ∧ xs.length ≤ sizeLine := by
  unfold srtOk at h
  simp only [Bool.and_eq_true, List.all_eq_true, decide_eq_true_eq, Bool.or_eq_true] at h
  obtain ⟨⟨⟨⟨h1, h2⟩, h3⟩, h4⟩, h5⟩ := h
  refine ⟨fun x hx => ?_, fun d hd d' hd' => ?_, ?_, h4, h5⟩
  · unfold encD
    cases q : toPD x with
    | none => have := h1 x hx; rw [q] at this; cases this
    | some p => rfl
  · obtain ⟨x, hx, rfl⟩ := List.mem_map.mp hd
    obtain ⟨y, hy, rfl⟩ := List.mem_map.mp hd'
    exact h2 x hx y hy
  · rcases h3 with h3 | h3
    · refine .inl fun d hd => ?_
      obtain ⟨x, hx, rfl⟩ := List.mem_map.mp hd
      have := h3 x hx
      unfold headT at this
      split at this
      · exact ⟨_, _, ‹_›⟩
      · cases this
    · refine .inr fun d hd => ?_
      obtain ⟨x, hx, rfl⟩ := List.mem_map.mp hd
      have := h3 x hx
      refine ⟨fun z => ?_, fun ys z => ?_⟩
      · rw [z] at this; cases this
      · rw [z] at this; cases this
def IsV (K : PySem.W.Frag) (m : List Addr) (H : Hp) (v : Value) (d : D) : Prop := ∃ x, RelV x v ∧ VR K m H x d
theorem each_isV {K : PySem.W.Frag} {m : List Addr} {H : Hp} : ∀ {vs : List V} {us : List Value} {ds : List D}, Vals vs us → VRs K m H vs ds → PySem.W.EachIs (IsV K m H) us ds
  | _, _, _, .nil, .nil => .nil
  | _, _, _, .cons r t, .cons w z => .cons ⟨_, r, w⟩ (each_isV t z)
theorem of_each {K : PySem.W.Frag} {m : List Addr} {H : Hp} : ∀ {us : List Value} {ds : List D}, PySem.W.EachIs (IsV K m H) us ds → ∃ vs, Vals vs us ∧ VRs K m H vs ds
  | _, _, .nil => ⟨[], .nil, .nil⟩
  | _, _, .cons ⟨x, r, w⟩ t => by
    obtain ⟨vs, h1, h2⟩ := of_each t
    exact ⟨x :: vs, .cons r h1, .cons w h2⟩
section
variable {X : Cx} {pins : List (Addr × Obj)} {σ : L2.St} {H : Hp} {s : Shared} {m : List Addr} {S : Sto}
theorem each_reads (I : Inv X pins σ H s) {vs : List V} {us : List Value} {ds : List D} (r : Vals vs us) (w : VRs X.K m H vs ds) (h : ∀ x ∈ ds, toPD x = some (encD x)) : PySem.W.EachIs (fun v b => ∃ as, Reads s.heap v (encD b) as) us ds := by
  induction r generalizing ds with
  | nil => cases w; exact .nil
  | cons r t ih =>
    cases w with
    | cons w z => exact .cons (Dp.reads I _ _ _ (w.dp (h _ (by simp))) r) (ih z fun x hx => h x (by simp [hx]))
def gSorted : GC := fun S ds => match ds with
  | [d] => match vw S d with
    | .lst xs => if srtOk xs = true then some (.lst (xs.mergeSort leD)) else none
    | _ => none
  | _ => none
theorem cl_sorted (hu : X.A.units + 64 < cLine) : CallL X (.builtin "sorted") gSorted := ⟨fun pins s σ H m S xs ds d us I q r rv e => by
  unfold gSorted at e
  split at e
  · split at e
    · rename_i l qv
      split at e
      · rename_i hk
        cases e
        obtain ⟨h1, h2, h3, h4, h5⟩ := srtOk_inv hk
        obtain ⟨v, rfl, w⟩ := r.one
        obtain ⟨a, vs, rfl, hs, rr⟩ := vw_lst q w qv
        obtain ⟨its, rv2, hl, hz⟩ := I.list hs
        rw [Vals.ref1 rv]
        refine PySem.W.sorted_data (R := IsV X.K m H) hl.isList (each_isV rv2 rr) (each_reads I rv2 rr h1) h2 h3 h5 (fun b hb => by have := h4 b hb; omega) fun out ho hE => ?_
        obtain ⟨ws, k1, k2⟩ := of_each hE
        obtain ⟨ep, he'⟩ := PyProof.Rows.sortedAll_at s.heap its (List.toArray out)
        have hn : H (s.heap.objs.size + 1) = none := I.hok.fresh (Nat.le_succ _)
        refine ⟨.ref (s.heap.objs.size + 1), upd H (s.heap.objs.size + 1) (.lst ws), m, I.laid (t' := s.toks) (fun _ _ => PyProof.Rows.sortedAll_old) (Nat.le_succ _) ⟨by rw [k1.length, ho]; exact h5, out, ep, k1, he'⟩, rfl, Ext.fresh hn, q.fresh hn, ?_⟩
        exact vr_newLst q hn k2
      · cases e
    · cases e
  · cases e⟩
end
end MP

namespace MP
open PySem PySem.Spec PyProof.Rows L2

/-! ### the keys of a dict -/
section
variable {X : Cx} {pins : List (Addr × Obj)} {σ : L2.St} {H : Hp} {s : Shared} {m : List Addr} {S : Sto}
theorem VDk.keysR {K : PySem.W.Frag} {m : List Addr} {H : Hp} : ∀ {vs : List (Key × V)} {ds : List (D × D)}, VDk K m H vs ds → VRs K m H (vs.map fun p => kV p.1) (ds.map (·.1))
  | _, _, .nil => .nil
  | _, _, @VDk.cons _ _ _ k v d vs ds h r => by
    refine .cons ?_ r.keysR
    cases k with
    | inl i => exact .int i
    | inr s => exact .str s
theorem VRs.kVs {K : PySem.W.Frag} {m : List Addr} {H : Hp} : ∀ ks : List Key, VRs K m H (ks.map kV) (ks.map keyD)
  | [] => .nil
  | .inl i :: ks => .cons (.int i) (VRs.kVs ks)
  | .inr s :: ks => .cons (.str s) (VRs.kVs ks)
theorem VDt.keysR {K : PySem.W.Frag} {m : List Addr} {H : Hp} : ∀ {vs : List (List Key × V)} {ds : List (D × D)} {bs : List Addr}, VDt K m H vs ds → IsKeys H vs bs → VRs K m H (bs.map V.ref) (ds.map (·.1))
  | _, _, _, .nil, .nil => .nil
  | _, _, _, @VDt.cons _ _ _ k v d vs ds h r, .cons hb t => .cons (.tup hb (VRs.kVs k)) (r.keysR t)
theorem dict_src (I : Inv X pins σ H s) (x : SR X.K m H S) {v : V} {d : D} {t : Bool} {kvs : List (D × D)} (r : VR X.K m H v d) (e : vw S d = .dct t kvs) :
    ∃ (a : Addr) (P : Nat → Value → Prop) (OK : Heap → Prop), v = .ref a ∧ PySem.W.KdlSrc X.prog X.w "dict" a a kvs.length P OK ∧ OK s.heap ∧ kvs.length ≤ sizeLine ∧
      ∀ acc, ItemsOf P acc kvs.length → ∃ ks, Vals ks acc.toList ∧ VRs X.K m H ks (kvs.map (·.1)) := by
  obtain ⟨a, rfl, h⟩ := vw_dct x r e
  rcases h with ⟨rfl, vs, h, rr⟩ | ⟨rfl, vs, h, rr⟩
  · obtain ⟨z, lo, us, rk, hd⟩ := (show ObjOk X.prog X.w H s.heap a (.dK vs) from I.hok a _ h)
    obtain ⟨ep, hat⟩ := hd.dictAt
    have hl : vs.length = us.length := Paired.length rk
    have hl2 := rr.length
    have src := PySem.W.kdl_dict (knd := mixKind X.prog X.w) (kvs := us) (ep := ep) lo
    rw [← hl, hl2] at src
    refine ⟨a, _, _, rfl, src, hat, by rw [← hl2]; exact z, fun acc it => ⟨_, ?_, rr.keysR⟩⟩
    have e1 : (vs.map fun p => kV p.1) = us.map fun p => kV p.1 := by
      have := KV.keys rk
      have e2 : (vs.map fun p => kV p.1) = (vs.map (·.1)).map kV := by rw [List.map_map]; rfl
      have e3 : (us.map fun p => kV p.1) = (us.map (·.1)).map kV := by rw [List.map_map]; rfl
      rw [e2, e3, this]
    rw [e1]
    exact keys_at (by rw [Array.length_toList, it.1, ← hl2, hl]) fun j w hw => it.2 j w (by rw [← Array.getElem?_toList]; exact hw)
  · obtain ⟨z, hs, ks, pr, o, es, ep, ho, hx, hdt, he, hn⟩ := (show ObjOk X.prog X.w H s.heap a (.dT vs) from I.hok a _ h)
    have l1 : es.size = ks.length := size_of_entries he
    have l2 : vs.length = ks.length := Paired.length pr
    have l3 := rr.length
    have src := kdl_raw (prog := X.prog) (w := X.w) hs hx hdt
    rw [l1, ← l2, l3] at src
    refine ⟨a, _, _, rfl, src, ho, by rw [← l3]; exact z, fun acc it => ⟨_, ?_, rr.keysR (isKeys_of pr)⟩⟩
    have ea : acc.toList = ks.map fun x => Value.ref x.2.1 := by
      have hl : acc.toList.length = ks.length := by rw [Array.length_toList, it.1, ← l3, l2]
      apply List.ext_getElem?
      intro j
      rw [List.getElem?_map]
      cases hj : acc.toList[j]? with
      | none =>
        have h1 := List.getElem?_eq_none_iff.mp hj
        rw [List.getElem?_eq_none (by omega)]
        all_goals rfl
      | some v =>
        obtain ⟨en, hen, hv⟩ := it.2 j v (by rw [← Array.getElem?_toList]; exact hj)
        have qe := entry_at he j
        rw [hen] at qe
        cases hb : ks[j]? with
        | none =>
          rw [hb] at qe
          exact nomatch (show some en = none from qe)
        | some b =>
          rw [hb] at qe
          have e2 : en = entryOfKey (tupleKind (mixKind X.prog X.w)) b := Option.some.inj qe
          rw [hv, e2]
          all_goals rfl
    have eb : acc.toList = (ks.map fun x => x.2.1).map Value.ref := by rw [ea, List.map_map]; all_goals rfl
    rw [eb]
    exact vals_refs _
/-- list(d) -/
def gListD : GC := fun S ds => match ds with
  | [d] => match vw S d with
    | .dct _ kvs => some (.lst (kvs.map (·.1)))
    | _ => none
  | _ => none
/-- sorted(d) -/
def gSortedD : GC := fun S ds => match ds with
  | [d] => match vw S d with
    | .dct _ kvs => if srtOk (kvs.map (·.1)) = true then some (.lst ((kvs.map (·.1)).mergeSort leD)) else none
    | _ => none
  | _ => none
end
end MP

namespace MP
open PySem PySem.Spec PyProof.Rows L2
open AutoSeq1 (wpAny_loadPart')
section
variable {prog : Program} {w : World} {A : Around} {E : Value → Shared → Prop} {s : Shared}
theorem new_tuple_src {A' : Around} {R : Result → Shared → Prop} {l : Addr} {T : String} {n : Nat} {P : Nat → Value → Prop} {OK : Heap → Prop} (K : PySem.W.KdlSrc prog w T l l n P OK) (hh : A.handled = none) (hok : OK s.heap) (hn : n ≤ sizeLine) (hne : T ≠ "tuple") (hT : s.TypeIs (.ref l) T)
    (h : ∀ (h' : Heap) (tk : Nat) (acc : Array Value), (∀ b o, s.heap.get? b = some o → h'.get? b = some o) → ItemsOf P acc n → R (.ok (.ret (.ref h'.objs.size))) { s with heap := h'.push { cls := .type "tuple", data := .seq acc }, toks := tk }) :
    wpAny (model prog w) A (Builtin.«tuple.__new__» ⟨[.type "tuple", .ref l], []⟩) (fun fin s' => match fin with
      | .done f => R (.ok f) s'
      | .again c' => c'.quiet = true ∧ codeAny (model prog w) A' c' R s') (fun e s' => R (.error e) s') s := by
  obtain ⟨hp, g, d, tk, os⟩ := s
  have hsub := sub_tuple_self
  have hinit := init_tuple_lookup
  have hmh := madeHere_tuple
  have hc : ∀ {Q : List Value → Shared → Prop} {E' : Value → Shared → Prop}, (∀ (h' : Heap) (tk' : Nat) (acc : Array Value), (∀ b o, hp.get? b = some o → h'.get? b = some o) → ItemsOf P acc n → Q acc.toList ⟨h', g, d, tk', os⟩) → wpAny (model prog w) A (collect (.ref l)) Q E' ⟨hp, g, d, tk, os⟩ := fun hq => PySem.W.kdu_collect K hh hok hn fun h' tk' acc hk hacc => hq h' tk' acc hk hacc
  wp_walk using wpAny_typeOf hT, hc
  intro h' tk' acc hk it
  refine wpAny_bind (wpAny_pure ?_)
  show wpAny _ _ (Builtin.Tuple.tupleExact acc.toList.toArray >>= fun v => ret v) _ _ _
  unfold Builtin.Tuple.tupleExact
  refine wpAny_bind (wpAny_newObj_type ?_ (by show acc.toList.toArray.size ≤ sizeLine; rw [Array.toArray_toList, it.1]; exact hn))
  refine wpAny_pure ?_
  rw [Array.toArray_toList]
  exact h h' tk' acc hk it
theorem call_tuple_src {l : Addr} {T : String} {n : Nat} {P : Nat → Value → Prop} {OK : Heap → Prop} {Q : Value → Shared → Prop} (K : PySem.W.KdlSrc prog w T l l n P OK) (hh : A.handled = none) (hok : OK s.heap) (hn : n ≤ sizeLine) (hne : T ≠ "tuple")
    (h : ∀ (h' : Heap) (tk : Nat) (acc : Array Value), (∀ b o, s.heap.get? b = some o → h'.get? b = some o) → ItemsOf P acc n → Q (.ref h'.objs.size) { s with heap := h'.push { cls := .type "tuple", data := .seq acc }, toks := tk }) :
    wpAny (model prog w) A (call (.type "tuple") [.ref l]) Q E s := by
  have hT : s.TypeIs (.ref l) T := K.type _ hok
  refine callType_codes (T := "tuple") (Bi := Builtin.«object.__init__») (Q₁ := fun r s₁ => s₁.TypeIs r "tuple" ∧ Q r s₁) PySem.F.called_tuple (PySem.F.typeCall_tuple_1 _) PySem.F.entry_object_init ?_ ?_
  · refine codeAny_of_tree ?_
    show wpAny _ A.in1.in1 (do checkBuiltinCall "tuple.__new__" ⟨[.type "tuple", .ref l], []⟩; again (.builtin "tuple.__new__" ⟨[.type "tuple", .ref l], []⟩)) _ _ s
    refine wpAny_bind (wpAny_of_eq (PySem.F.newCall_tuple_1 _) (wpAny_pure ⟨plainId_quiet (by decide +kernel) _, codeAny_builtin PySem.F.entry_tuple_new ?_⟩))
    rw [Around.under_plainId (by decide +kernel) _]
    exact new_tuple_src (A := A.in1.in1) (A' := A.in1) (R := wants (fun r s₁ => s₁.TypeIs r "tuple" ∧ Q r s₁) E) K hh hok hn hne hT fun h' tk acc hk it => ⟨⟨_, Heap.get?_push_size _ rfl, rfl⟩, h h' tk acc hk it⟩
  · rintro obj s₁ ⟨ht, hq⟩
    exact ⟨ht, PySem.F.args_object_init_2 _ _, object_init_meets PySem.F.called_tuple.init.lookup PySem.F.called_tuple.made (by decide) prog w A.in1 _ s₁ ⟨ht, rfl, hq⟩⟩
end
section
variable {X : Cx}
/-- tuple(d) -/
def gTupD : GC := fun S ds => match ds with
  | [d] => match vw S d with
    | .dct _ kvs => some (.tup (kvs.map (·.1)))
    | _ => none
  | _ => none
theorem cl_tupD (hc : X.calm = true) : CallL X (.type "tuple") gTupD := ⟨fun pins s σ H m S xs ds d us I q r rv e => by
  unfold gTupD at e
  split at e
  · split at e
    · rename_i t kvs qv
      cases e
      obtain ⟨v, rfl, w⟩ := r.one
      obtain ⟨a, P, OK, rfl, src, ok, hz, hk⟩ := dict_src I q w qv
      rw [Vals.ref1 rv]
      refine call_tuple_src src (I.ok.hd hc) ok hz (by decide) fun h' tk acc kp it => ?_
      obtain ⟨ks, k1, k2⟩ := hk acc it
      have I1 : Inv X pins σ H { s with heap := h', toks := tk } := I.kept kp
      have hn : H h'.objs.size = none := I1.hok.fresh (Nat.le_refl _)
      refine ⟨.ref h'.objs.size, _, m, I1.laid (t' := tk) (o := .tup ks) (fun b o e => Heap.get?_push_of_some _ e) (Nat.le_refl _) ⟨by rw [k2.length, List.length_map]; exact hz, acc.toList, k1, ?_⟩, rfl, Ext.fresh hn, q.fresh hn, vr_newTup q hn k2⟩
      have := IsTup.new h' acc
      rw [← Array.toArray_toList (xs := acc)] at this
      exact this
    · cases e
  · cases e⟩
end
end MP

/-! isinstance and fields of an exception that is a value (the two lemmas ahead: lines of HandS.ExcIs, turned to an exception with a dict) -/
namespace PySem.W
open PySem PySem.Spec PySem.Calls PyProof.Rows
section
variable {prog : Program} {w : World} {A : Around} {E : Value → Shared → Prop} {s : Shared} {K : Frag} {x D : Addr} {ox : Obj} {od : Option Obj}
end
end PySem.W
namespace MP
open PySem PySem.Spec PyProof.Rows L2
section
variable {X : Cx} {pins : List (Addr × Obj)} {σ : L2.St} {H : Hp} {s : Shared} {m : List Addr} {S : Sto}
variable {e : Expr} {pos : Pos} {l : LE} {Cs : List Addr} {f : Str}
/-- e.f, e an exception of one of the classes -/
def gFldE (Cs : List Addr) (f : Str) (S : Sto) (d : D) : Option D := match vw S d with
  | .exn C fs => if C ∈ Cs then fs.lookup f else none
  | _ => none
def lFldE (Cs : List Addr) (f : Str) (l : LE) : LE := fun ρ S => (l ρ S).bind fun d S1 => lift1 (gFldE Cs f S1 d) S1
/-- isinstance(e, c), e an exception -/
structure IsEOk (K : PySem.W.Frag) (c : Value) (tab : Addr → Option Bool) : Prop where
  one : ∀ C b, tab C = some b → PySem.W.kitOne K (.ref C) c = some b ∧ ExcC K C
def gIsE (tab : Addr → Option Bool) (S : Sto) (d : D) : Option D := match vw S d with
  | .exn C _ => (tab C).map .bl
  | _ => none
def lIsE (tab : Addr → Option Bool) (l : LE) : LE := fun ρ S => (l ρ S).bind fun d S1 => lift1 (gIsE tab S1 d) S1
end
end MP

/-! own exceptions made as values -/
namespace MP
open PySem PySem.Spec PyProof.Rows L2
/-! ### the bodies of __init__ -/
/-- what a class C with an __init__ of its own must have -/
structure MkE (K : PySem.W.Frag) (C f : Addr) (fs : List Str) : Prop where
  T : OexC K C
  i : PySem.W.findIn K (.ref C) "__init__" = some (some (.ref f))
  t : PySem.W.typeIn K (.ref f) = some (.type "function")
  no : ∀ g ∈ fs, PySem.W.findIn K (.ref C) g = some none
section
variable {X : Cx} {pins : List (Addr × Obj)} {σ : L2.St} {H : Hp} {s : Shared} {m : List Addr} {S : Sto} {C f : Addr} {fs ps : List Str} {k : Nat} {fd : FuncData}
abbrev FnE (P : Program) (w : World) (K : PySem.W.Frag) (mg : Str → Option Value) (base : Heap) (k : Nat) (f : Addr) (fd : FuncData) (ps fs : List Str) : Prop := FnOk P w K mg base (L2.CX P w) k f fd ps (spE K fs)
end
end MP

namespace MP
open PySem PySem.Spec PyProof.Rows L2
section
variable {X : Cx} {e : Expr} {pos p : Pos} {es : List Expr} {kws : List Keyword} {t tk : LA} {x : Str} {k : Nat} {f C : Addr} {fd : FuncData} {ps ks fs : List Str}
def mkE (C : Addr) (fs : List Str) (ds : List D) (S : Sto) : R D := if ds.length = fs.length then .ok (.exn C (fs.zip ds).reverse) S else .bad
/-- C(k = v, ..), likewise; pk: the order of the values, self being 0 -/
def mkEk (C : Addr) (fs ks : List Str) (pk : List Nat) (ds : List D) (S : Sto) : R D := if ds.length = ks.length ∧ (pick pk ds).length = fs.length then .ok (.exn C (fs.zip (pick pk ds)).reverse) S else .bad
end
end MP

/-! an exception that a handler keeps: it is taken into the abstract heap -/
namespace MP
open PySem PySem.Spec PyProof.Rows L2
section
variable {X : Cx} {pins : List (Addr × Obj)} {σ : L2.St} {H : Hp} {s : Shared} {a : Addr} {o : HO}
end
end MP

/-! try: .. except C as n: .., the exception being a value from the handler on (the road of L2.ps_try_as) -/
namespace MP
open PySem PySem.Spec PyProof.Rows L2
def endH (i : Nat) (fl : Fl) (S : Sto) : R Fl := match fl with
  | .nx ρ => .ok (.nx (ρ.set i none)) S
  | .bk ρ => .ok (.bk (ρ.set i none)) S
  | .ct ρ => .ok (.ct (ρ.set i none)) S
  | .rt d => .ok (.rt d) S
  | .ex _ _ _ => .bad
def catchH (i : Nat) (tab : Addr → Option Bool) (ls : LS) (fl : Fl) (S : Sto) : R Fl := match fl with
  | .ex C fs ρ => match tab C with
    | some true => (ls (ρ.set i (some (.exn C fs))) S).bind (endH i)
    | some false => .ok (.ex C fs ρ) S
    | none => .bad
  | fl => .ok fl S
def lTryA (i : Nat) (tab : Addr → Option Bool) (lb ls : LS) : LS := fun ρ S => (lb ρ S).bind (catchH i tab ls)
section
variable {X : Cx} {x n : Str} {c : Value} {i : Nat} {body suite : List Stmt} {b₀ : Stmt} {np pos pos' : Pos} {lb ls : LS} {tab : Addr → Option Bool}
end
end MP

/-! raise C(e, ..), C an own class with an __init__ of its own -/
namespace MP
open PySem PySem.Spec PyProof.Rows L2
section
variable {X : Cx} {e : Expr} {es : List Expr} {ta : TA} {p pos : Pos}
end
section
variable {X : Cx} {e : Expr} {pos pos' p : Pos} {es : List Expr} {t : LA} {x : Str} {k : Nat} {f C : Addr} {fd : FuncData} {ps fs : List Str}
def lRaiseE (C : Addr) (fs : List Str) (t : LA) : LS := fun ρ S => liftX ρ (t ρ S) fun ds S1 => if ds.length = fs.length then .ok (.ex C (fs.zip ds).reverse ρ) S1 else .bad
end
end MP

namespace MP
open PySem PySem.Spec PyProof.Rows L2
/-- a short text times a small int -/
def strRep (x : Str) (n : Int) : Str := if n < 1 then Str.empty else if (n == 1 || x.length == 0) = true then x else ⟨(List.replicate n.toNat x.cps).foldl (· ++ ·) #[]⟩
def gMulS : G2 := fun S dx dy => match vw S dx, vw S dy with
  | .str x, .int n => if 0 ≤ n ∧ n ≤ 1000 ∧ x.length ≤ 1000 ∧ (strRep x n).length ≤ sizeLine then some (.str (strRep x n)) else none
  | _, _ => none
theorem opl_mulS {X : Cx} : OpL X (binaryOp .Mult) gMulS := ⟨fun pins s σ H m S x y dx dy d v u I q rx ry rv ru e => by
  unfold gMulS at e
  split at e
  · rename_i a n e1 e2
    split at e
    · rename_i hz
      obtain ⟨h0, h1, h2, h3⟩ := hz
      cases e
      have ea := vw_str rx e1
      have eb := vw_int ry e2
      subst ea
      subst eb
      obtain ⟨t, rfl⟩ := rv
      obtain ⟨t2, rfl⟩ := ru
      have hsz : (sizeLine : Nat) ≥ 1000000 := by rw [sizeLine_eq]; omega
      refine PySem.P.mul_str ?_ (fun a1 a2 => ?_) (fun a1 a2 => ?_) ?_
      · rw [decide_eq_false (by omega), decide_eq_false (by omega)]; rfl
      · have : (2 ^ 63 - 1) / n ≥ (2 ^ 63 - 1) / 1000 := by
          have hn : 0 < n := by omega
          rw [ge_iff_le, Int.le_ediv_iff_mul_le hn]
          have : (2 ^ 63 - 1 : Int) / 1000 * n ≤ (2 ^ 63 - 1 : Int) / 1000 * 1000 := Int.mul_le_mul_of_nonneg_left h1 (by decide)
          have z : (2 ^ 63 - 1 : Int) / 1000 * 1000 ≤ 2 ^ 63 - 1 := by decide
          omega
        have z : (2 ^ 63 - 1 : Int) / 1000 ≥ 1000 := by decide
        omega
      · unfold Builtin.Str.tooLong
        refine decide_eq_false ?_
        have : a.length * n.toNat ≤ 1000 * 1000 := Nat.mul_le_mul h2 (by omega)
        omega
      · unfold strRep at h3 ⊢
        by_cases c1 : n < 1
        · rw [if_pos c1] at h3 ⊢
          rw [if_pos c1]
          exact ⟨h3, .str _, H, m, I.tok _, ⟨_, rfl⟩, Ext.refl, q, .str _⟩
        · rw [if_neg c1] at h3 ⊢
          rw [if_neg c1]
          by_cases c2 : (n == 1 || a.length == 0) = true
          · rw [if_pos c2] at h3 ⊢
            rw [if_pos c2]
            exact ⟨.str _, H, m, I, ⟨_, rfl⟩, Ext.refl, q, .str _⟩
          · rw [if_neg c2] at h3 ⊢
            rw [if_neg c2]
            exact ⟨h3, .str _, H, m, I.tok _, ⟨_, rfl⟩, Ext.refl, q, .str _⟩
    · cases e
  · cases e⟩
end MP

/-! repr of deep data, an empty dict in it too (the road of ReprK.of_reads) -/
namespace MP
open PySem PySem.Spec PyProof.Rows L2
mutual
def toPE : D → Option PyData
  | .non => some .none
  | .bl b => some (.bool b)
  | .int i => some (.int i)
  | .str s => some (.str s)
  | .tup xs => (toPEs xs).map .tuple
  | .ftup xs => (toPEs xs).map .tuple
  | .lst xs => (toPEs xs).map .list
  | .dct _ [] => some (.dict [])
  | _ => none
def toPEs : List D → Option (List PyData)
  | [] => some []
  | x :: xs => (toPE x).bind fun a => (toPEs xs).map fun b => a :: b
end
mutual
inductive De (K : PySem.W.Frag) (H : Hp) : V → PyData → Prop
  | non : De K H .non .none
  | bl (b : Bool) : De K H (.bl b) (.bool b)
  | int (i : Int) : De K H (.int i) (.int i)
  | str (x : Str) : De K H (.str x) (.str x)
  | lst {a : Addr} {xs : List V} {ds : List PyData} : SqL K H a xs → DeAll K H xs ds → De K H (.ref a) (.list ds)
  | tup {a : Addr} {xs : List V} {ds : List PyData} : SqT K H a xs → DeAll K H xs ds → De K H (.ref a) (.tuple ds)
  | dk {a : Addr} : H a = some (.dK []) → De K H (.ref a) (.dict [])
  | dt {a : Addr} : H a = some (.dT []) → De K H (.ref a) (.dict [])
inductive DeAll (K : PySem.W.Frag) (H : Hp) : List V → List PyData → Prop
  | nil : DeAll K H [] []
  | cons {v : V} {vs : List V} {d : PyData} {ds : List PyData} : De K H v d → DeAll K H vs ds → DeAll K H (v :: vs) (d :: ds)
end
section
variable {K : PySem.W.Frag} {m : List Addr} {H : Hp}
end
section
variable {X : Cx} {pins : List (Addr × Obj)} {σ : L2.St} {H : Hp} {s : Shared} {prog : Program} {w : World}
end
end MP

/-! repr(d) of deep data; list(..) put into the store; list + list -/
namespace MP
open PySem PySem.Spec PyProof.Rows L2
section
variable {X : Cx} {pins : List (Addr × Obj)} {σ : L2.St} {H : Hp} {s : Shared}
end
def gReprD : GC := fun S ds => match ds with
  | [d] => match toPE d with
    | some p => if p.showable = true ∧ p.shown.length ≤ sizeLine ∧ p.depth ≤ 40 then some (.str p.shown) else none
    | none => none
  | _ => none
/-! ### list(..) put into the store -/
def gItems (S : Sto) (ds : List D) : Option (List D) := match ds with
  | [d] => match vw S d with
    | .lst xs => some xs
    | .tup xs => some xs
    | _ => none
  | _ => none
def lListN (t : LA) : LE := fun ρ S => (t ρ S).bind fun ds S1 => match gItems S1 ds with
  | some ys => .ok (.ref S1.length) (S1 ++ [.lst ys])
  | none => .bad
theorem pel_listN {X : Cx} {x : Str} {e : Expr} {es : List Expr} {t : LA} {p pos : Pos} (hg : Gl X x) (hm : X.mg x = none) (hv : bootBuiltins x = some (.type "list")) (ha : PAL X (e :: es) t) (hn : x ≠ "__name__" := by decide) (hdb : (x == ("__debug__" : Str)) = false := by decide)
    (he : starEach (e :: es) X.env = (false, eval e X.env) :: starEach es X.env := by rfl) (hpl : (backTo pos (starEach es X.env)).any (·.1) = false := by rfl) : PEL X (.Call (.Name x p) (e :: es) [] pos) (lListN t) := by
  refine ⟨fun pins s σ H m ρ S I x r hp => ?_⟩
  refine wpAny_Call_Name_kw (ld_blt I hg hm hv ?_ hn hdb)
  refine PyProof.Rows.callWith_type1 (run_seqA ha I x r hp fun ds S1 q1 vs us s1 H1 m1 I1 rv e1 x1 w1 r1 hp1 => ?_) he hpl
  cases qi : gItems S1 ds with
  | none => rw [qi] at hp1; exact absurd rfl hp1.1
  | some ys =>
    have e0 : lListN t ρ S = .ok (.ref S1.length) (S1 ++ [.lst ys]) := by unfold lListN; rw [q1, bind_ok, qi]
    rw [e0]
    unfold gItems at qi
    split at qi
    · obtain ⟨v, rfl, rv'⟩ := w1.one
      have fin : ∀ {a : Addr} {vs : List V}, v = .ref a → (SqL X.K H1 a vs ∨ SqT X.K H1 a vs) → VRs X.K m1 H1 vs ys → wpAny (model X.prog X.w) X.A (call (.type "list") us) (VPr X pins σ m H (.ok (.ref S1.length) (S1 ++ [.lst ys]))) X.xe s1 := by
        intro a vs ev h1 r1
        subst ev
        refine thn (call_list_of pins s1 σ H1 _ us (fun v' H' => ∃ l, H1 l = none ∧ v' = .ref l ∧ H' = upd H1 l (.lst vs)) I1 rv ⟨a, vs, rfl, h1, fun l hl => ⟨l, hl, rfl, rfl⟩⟩) fun u s2 ⟨v2, H2, I2, rv2, l, hl, ev2, eH⟩ => ?_
        subst ev2
        subst eH
        obtain ⟨m', z1, z2, z3⟩ := qv_newL x1 hl r1
        exact (vpr_of ⟨.ref l, _, m', I2, rv2, z1, z2, z3⟩).left e1
      split at qi
      · rename_i zs e1'
        cases qi
        obtain ⟨a, vs, ev, h1, r1⟩ := vw_lst x1 rv' e1'
        exact fin ev (.inl h1) r1
      · rename_i zs e1'
        cases qi
        obtain ⟨a, vs, ev, h1, r1⟩ := vw_tup rv' e1'
        exact fin ev (.inr (SqT.of h1)) r1
      · cases qi
    · cases qi
end MP

/-! list + list; isinstance tables of exceptions -/
namespace MP
open PySem PySem.Spec PyProof.Rows L2
theorem list_add_any (l : Addr) (ol : Obj) (items : Array Value) (n : Nat) (b : Addr) (ob : Obj) (items2 : Array Value) (n2 : Nat) (hz : items.size + items2.size ≤ sizeLine) :
    Meets (Builtin.«list.__add__» ⟨[.ref l, .ref b], []⟩) (fun _ R s => s.heap.get? l = some ol ∧ ol.data = .seq items n ∧ s.heap.get? b = some ob ∧ ob.cls = .type "list" ∧ ob.data = .seq items2 n2 ∧
      R (.ok (.ret (Value.ref s.heap.objs.size))) { s with heap := s.heap.push { cls := Value.type "list", data := Data.seq (items ++ items2) } }) :=
  .of_wp fun prog w A R s h => by
    obtain ⟨hl, hd, hb, hc, hd2, h⟩ := h
    have f3 := sub_list_list
    have tb : s.TypeIs (.ref b) "list" := ⟨ob, hb, hc⟩
    unfold Builtin.«list.__add__»
    refine wpAny_bind (wpAny_of_eq (a := ((Value.ref l : Value), [Value.ref b])) (by first | rfl | (simp only [slotArgs]; rfl)) ?_)
    refine wpAny_bind (wpAny_isInstance tb f3 ?_)
    simp only [Bool.not_true, Bool.false_eq_true, if_false]
    first
      | exact wpAny_bind (wpAny_bind (wpAny_listItems hl hd (wpAny_bind (wpAny_listItems hb hd2 (wpAny_newObj_type (wpAny_pure ⟨_, rfl, h⟩) (by first | size_fits | (show (items ++ items2).size ≤ sizeLine; rw [Array.size_append]; omega)))))))
      | exact wpAny_bind (wpAny_listItems hl hd (wpAny_bind (wpAny_listItems hb hd2 (wpAny_bind (wpAny_newObj_type (wpAny_pure ⟨_, rfl, h⟩) (by first | size_fits | (show (items ++ items2).size ≤ sizeLine; rw [Array.size_append]; omega)))))))

section
variable {X : Cx}
theorem opl_catL : OpL X (binaryOp .Add) gCatL := ⟨fun pins s σ H m S x y dx dy d v u I q rx ry ex ey e => by
  obtain ⟨i, j, e1, e2, e3⟩ := g2L_inv e
  split at e3
  · rename_i hz
    cases e3
    obtain ⟨a, xs, rfl, ha, r1⟩ := vw_lst q rx e1
    obtain ⟨b, ys, rfl, hb, r2⟩ := vw_lst q ry e2
    obtain rfl : v = Value.ref a := ex
    obtain rfl : u = Value.ref b := ey
    obtain ⟨its, rv, ⟨o, n, h1, h2, hn, h3⟩, hz1⟩ := I.list ha
    obtain ⟨its2, rv2, ⟨o2, n2, g1, g2, gn, g3⟩, hz2⟩ := I.list hb
    have hl : its.length + its2.length ≤ sizeLine := by rw [← rv.length, ← rv2.length, r1.length, r2.length]; exact hz
    refine concat_meets ⟨_, h1, h2⟩ ⟨_, g1, g2⟩ noFill_list_add seq_list_add F.slot_list_add F.entry_list_add (F.args_list_add_2 _ _) (list_add_any a o its.toArray n b o2 its2.toArray n2 (by rw [List.size_toArray, List.size_toArray]; exact hl)) ⟨h1, h3, g1, g2, g3, ?_⟩
    have ea : its.toArray ++ its2.toArray = (its ++ its2).toArray := by simp
    rw [ea]
    have hf : H s.heap.objs.size = none := I.hok.fresh (Nat.le_refl _)
    have hl2 : (xs ++ ys).length ≤ sizeLine := by rw [List.length_append, r1.length, r2.length]; exact hz
    exact ⟨.ref s.heap.objs.size, upd H s.heap.objs.size (.lst (xs ++ ys)), m, I.laid (t' := s.toks) (fun b u e => Heap.get?_push_of_some _ e) (Nat.le_refl _) ⟨hl2, its ++ its2, 0, rv.append rv2, Heap.get?_push_size _ rfl⟩, rfl, Ext.fresh hf, q.fresh hf, vr_newLst q hf (r1.append r2)⟩
  · cases e3⟩
def gAdd2 : G2 := fun S x y => (gAdd S x y).or (gCatL S x y)
theorem opl_add2 : OpL X (binaryOp .Add) gAdd2 := opl_add.or opl_catL
end
open Classical in
noncomputable def tabE (K : PySem.W.Frag) (c : Value) : Addr → Option Bool := fun D => if ExcC K D then PySem.W.kitOne K (.ref D) c else none
end MP

/-! words on texts and lists of texts -/
namespace MP
open PySem PySem.Spec PyProof.Rows L2
section
variable {X : Cx}
/-- a sign in a text -/
def gInSg : G2 := fun S x y => match vw S x, vw S y with
  | .str i, .str z => match i.cps.toList with
    | [c] => some (.bl (decide (c ∈ z.cps.toList)))
    | _ => none
  | _, _ => none
theorem str_one {i : Str} {c : Nat} (h : i.cps.toList = [c]) : i = ⟨#[c]⟩ := by
  obtain ⟨⟨l⟩⟩ := i
  have : l = [c] := h
  rw [this]
theorem opl_inSg : OpL X (compareOp .In) gInSg := .of op_in_sign fun H m S x y dx dy d q rx ry e => by
  unfold gInSg at e
  split at e
  · rename_i i z e1 e2
    split at e
    · rename_i c hc
      cases e
      have h := str_one hc
      subst h
      exact ⟨c, z, vw_str rx e1, vw_str ry e2, qv_same q (.bl _)⟩
    · cases e
  · cases e
def gLeS : G2 := g2S fun i j => some (.bl (!decide (j.cps.toList < i.cps.toList)))
def gGtS : G2 := g2S fun i j => some (.bl (decide (j.cps.toList < i.cps.toList)))
theorem opl_leS : OpL X (compareOp .LtE) gLeS := .of op_le_str fun H m S x y dx dy d q rx ry e => by
  obtain ⟨i, j, e1, e2, e3⟩ := g2S_inv e
  cases e3
  exact ⟨i, j, vw_str rx e1, vw_str ry e2, qv_same q (.bl _)⟩
theorem opl_gtS : OpL X (compareOp .Gt) gGtS := .of op_gt_str fun H m S x y dx dy d q rx ry e => by
  obtain ⟨i, j, e1, e2, e3⟩ := g2S_inv e
  cases e3
  exact ⟨i, j, vw_str rx e1, vw_str ry e2, qv_same q (.bl _)⟩
/-- a text in a list of texts -/
def strsD : List D → Option (List Str)
  | [] => some []
  | .str x :: r => (strsD r).map fun ys => x :: ys
  | _ :: _ => none
theorem strsD_map : ∀ ys : List Str, strsD (ys.map D.str) = some ys
  | [] => rfl
  | y :: ys => by show (strsD (ys.map D.str)).map _ = _; rw [strsD_map ys]; rfl
theorem strsD_eq : ∀ {ds : List D} {ys : List Str}, strsD ds = some ys → ds = ys.map D.str
  | [], ys, h => by cases h; rfl
  | d :: ds, ys, h => by
    cases d with
    | str x =>
      simp only [strsD] at h
      cases q : strsD ds with
      | none => rw [q] at h; cases h
      | some zs => rw [q] at h; cases h; rw [strsD_eq q]; rfl
    | _ => simp [strsD] at h
theorem vrs_strs {K : PySem.W.Frag} {m : List Addr} {H : Hp} : ∀ {vs : List V} {ys : List Str}, VRs K m H vs (ys.map D.str) → vs = ys.map V.str
  | _, [], .nil => rfl
  | _, y :: ys, .cons h r => by cases h; rw [vrs_strs r]; rfl
theorem inV_strs (x : Str) (ys : List Str) : inV (.str x) (ys.map V.str) = decide (x ∈ ys) := by
  unfold inV
  induction ys with
  | nil => simp
  | cons y ys ih =>
    rw [List.map_cons, List.any_cons, ih]
    show ((y == x) || decide (x ∈ ys)) = decide (x ∈ y :: ys)
    by_cases h : y = x
    · subst h; simp
    · have : (y == x) = false := beq_eq_false_iff_ne.mpr h
      simp [this, Ne.symm h]
def gInL : G2 := fun S x y => match vw S x, vw S y with
  | .str i, .lst l => (strsD l).map fun ys => .bl (decide (i ∈ ys))
  | _, _ => none
def gNotInL : G2 := fun S x y => match vw S x, vw S y with
  | .str i, .lst l => (strsD l).map fun ys => .bl (!decide (i ∈ ys))
  | _, _ => none
theorem flat_strs (ys : List Str) : (ys.map V.str).all flatV = true := by simp [flatV]
theorem opl_notInL : OpL X (compareOp .NotIn) gNotInL := .of op_notIn_seq fun H m S x y dx dy d q rx ry e => by
  unfold gNotInL at e
  split at e
  · rename_i i l e1 e2
    cases hs : strsD l with
    | none => rw [hs] at e; cases e
    | some ys =>
      rw [hs] at e
      cases e
      have hl := strsD_eq hs
      subst hl
      have ex := vw_str rx e1
      subst ex
      obtain ⟨a, vs, rfl, h1, r⟩ := vw_lst q ry e2
      have hv := vrs_strs r
      subst hv
      refine ⟨a, _, rfl, .inl h1, rfl, flat_strs ys, ?_⟩
      show QV X.K m H S _ (.bl (!inV (.str i) (ys.map V.str))) H
      rw [inV_strs]
      exact qv_same q (.bl _)
  · cases e
/-- int(a truth), int(an int) -/
def gInt1 : GC := fun _ ds => match ds with
  | [.int i] => some (.int i)
  | [.bl b] => some (.int (if b then 1 else 0))
  | _ => none
/-- a power of any number -/
def gPowB : G2 := g2I fun i j => if 0 ≤ j ∧ (Builtin.Int.intBits i : Int) * j ≤ 2 ^ 27 then some (.int (i ^ j.toNat)) else none
end
/-! ### split, join, strip -/
section
variable {X : Cx}
def stSplit : GM := fun S r ds => match r, ds with
  | .str a, [.str b] => if (b.length == 0) = false ∧ a.length + 2 ≤ sizeLine then some (.lst ((Txt.split a b).map D.str), S) else none
  | _, _ => none
def stStripC : GM := fun S r ds => match r, ds with
  | .str a, [.str b] => if a.length ≤ sizeLine then some (.str (Txt.stripChars a b), S) else none
  | _, _ => none
def stJoin : GM := fun S r ds => match r, ds with
  | .str a, [d] => match vw S d with
    | .lst l => match strsD l with
      | some ys => if (ys.map (·.length)).sum + ys.length * a.length ≤ 16777216 then some (.str (Txt.join a ys), S) else none
      | none => none
    | _ => none
  | _, _ => none
variable {o e : Expr} {lo le : LE} {apos cpos : Pos}
end
end MP

/-! zip of two; pairs of texts by < -/
namespace MP
open PySem PySem.Spec PyProof.Rows L2
def zipD (xs ys : List D) : List D := List.zipWith (fun x y => D.tup [x, y]) xs ys
theorem zipD_get {xs ys : List D} {i : Nat} {d : D} (h : (zipD xs ys)[i]? = some d) : ∃ x y, xs[i]? = some x ∧ ys[i]? = some y ∧ d = .tup [x, y] := by
  unfold zipD at h
  rw [List.getElem?_zipWith] at h
  cases q : xs[i]? with
  | none => rw [q] at h; cases h2 : ys[i]? <;> rw [h2] at h <;> cases h
  | some x =>
    cases q2 : ys[i]? with
    | none => rw [q, q2] at h; cases h
    | some y => rw [q, q2] at h; cases h; exact ⟨x, y, rfl, rfl, rfl⟩
theorem zipD_length (xs ys : List D) : (zipD xs ys).length = min xs.length ys.length := by simp [zipD]
section
variable {K : PySem.W.Frag} {m1 : List Addr} {H1 : Hp}
theorem sql_stays {v : V} {xs : List D} (w : VR K m1 H1 v (.lst xs)) : ∃ a vs, v = .ref a ∧ VRs K m1 H1 vs xs ∧ SqL K H1 a vs ∧ ∀ (m2 : List Addr) (H2 Hx : Hp), Ext m1 H1 m2 H2 → (∀ a o, H2 a = some o → Hx a = some o) → SqL K Hx a vs := by
  cases w with
  | @lst a vs _ n h r =>
    refine ⟨a, vs, rfl, r, .inl h, fun m2 H2 Hx e sup => ?_⟩
    have h2 := e.rd n h
    rcases h2 with h2 | ⟨o, h2⟩
    · exact .inl (.inl (sup _ _ h2))
    · exact .inl (.inr ⟨o, sup _ _ h2⟩)
  | @lstK a vs _ ob its n hk h1 h2 h3 h4 h5 r => exact ⟨a, vs, rfl, r, .inr ⟨ob, its, n, hk, h1, h2, h3, h4, h5⟩, fun _ _ _ _ _ => .inr ⟨ob, its, n, hk, h1, h2, h3, h4, h5⟩⟩
theorem sqt_stays (mu : ∀ a ∈ m1, Mut (H1 a)) {v : V} {xs : List D} (w : VR K m1 H1 v (.tup xs)) : ∃ a vs, v = .ref a ∧ VRs K m1 H1 vs xs ∧ SqT K H1 a vs ∧ ∀ (m2 : List Addr) (H2 Hx : Hp), Ext m1 H1 m2 H2 → (∀ a o, H2 a = some o → Hx a = some o) → SqT K Hx a vs := by
  cases w with
  | @tup a vs _ h r => exact ⟨a, vs, rfl, r, SqT.of h, fun m2 H2 Hx e sup => SqT.of (sup _ _ (tup_ext e mu h))⟩
theorem sqf_stays (mu : ∀ a ∈ m1, Mut (H1 a)) {v : V} {xs : List D} (w : VR K m1 H1 v (.ftup xs)) : ∃ a vs, v = .ref a ∧ VRs K m1 H1 vs xs ∧ SqT K H1 a vs ∧ ∀ (m2 : List Addr) (H2 Hx : Hp), Ext m1 H1 m2 H2 → (∀ a o, H2 a = some o → Hx a = some o) → SqT K Hx a vs := by
  cases w with
  | @ftup a vs _ o hd h r => exact ⟨a, vs, rfl, r, SqT.rd (.inr ⟨o, h⟩), fun m2 H2 Hx e sup => SqT.rd (.inr ⟨o, sup _ _ (frz_ext e mu h)⟩)⟩
theorem yl_zip {a b : Addr} {vs ws : List V} {xs ys : List D} (mu : ∀ a ∈ m1, Mut (H1 a)) (ha : ∀ (m2 : List Addr) (H2 Hx : Hp), Ext m1 H1 m2 H2 → (∀ a o, H2 a = some o → Hx a = some o) → SqL K Hx a vs) (hb : ∀ (m2 : List Addr) (H2 Hx : Hp), Ext m1 H1 m2 H2 → (∀ a o, H2 a = some o → Hx a = some o) → SqL K Hx b ws)
    (r : VRs K m1 H1 vs xs) (r' : VRs K m1 H1 ws ys) : Ylds K (Itz K a b) m1 H1 ⟨zipD xs ys, fun _ => True⟩ := fun m2 H2 S2 Hx e x _ sup => by
  have h3 := ha m2 H2 Hx e sup
  have h4 := hb m2 H2 Hx e sup
  have r2 := r.ext e mu
  have r3 := r'.ext e mu
  refine ⟨fun i d hi => ?_, fun i hi => ⟨vs, ws, h3, h4, ?_⟩⟩
  · obtain ⟨y, z, hy, hz, rfl⟩ := zipD_get hi
    obtain ⟨v, hv, w⟩ := r2.getr hy
    obtain ⟨v2, hv2, w2⟩ := r3.getr hz
    refine ⟨⟨vs, ws, v, v2, h3, h4, hv, hv2⟩, fun z H' q => .inr ?_⟩
    obtain ⟨T, z1, z2, ez, hT, eH, q1, q2⟩ := q
    have e1 := q1 vs h3
    have e2 := q2 ws h4
    rw [hv] at e1
    rw [hv2] at e2
    cases e1
    cases e2
    exact ⟨T, [v, v2], _, hT, eH, ez, rfl, .cons w (.cons w2 .nil)⟩
  · have hi' : min xs.length ys.length ≤ i := by rw [← zipD_length]; exact hi
    rw [r.length, r'.length]
    omega
theorem yl_zipT {a b : Addr} {vs ws : List V} {xs ys : List D} (mu : ∀ a ∈ m1, Mut (H1 a)) (ha : ∀ (m2 : List Addr) (H2 Hx : Hp), Ext m1 H1 m2 H2 → (∀ a o, H2 a = some o → Hx a = some o) → SqT K Hx a vs) (hb : ∀ (m2 : List Addr) (H2 Hx : Hp), Ext m1 H1 m2 H2 → (∀ a o, H2 a = some o → Hx a = some o) → SqT K Hx b ws)
    (r : VRs K m1 H1 vs xs) (r' : VRs K m1 H1 ws ys) : Ylds K (RZ.ItzT K a b) m1 H1 ⟨zipD xs ys, fun _ => True⟩ := fun m2 H2 S2 Hx e x _ sup => by
  have h3 := ha m2 H2 Hx e sup
  have h4 := hb m2 H2 Hx e sup
  have r2 := r.ext e mu
  have r3 := r'.ext e mu
  refine ⟨fun i d hi => ?_, fun i hi => ⟨vs, ws, h3, h4, ?_⟩⟩
  · obtain ⟨y, z, hy, hz, rfl⟩ := zipD_get hi
    obtain ⟨v, hv, w⟩ := r2.getr hy
    obtain ⟨v2, hv2, w2⟩ := r3.getr hz
    refine ⟨⟨vs, ws, v, v2, h3, h4, hv, hv2⟩, fun z H' q => .inr ?_⟩
    obtain ⟨T, z1, z2, ez, hT, eH, q1, q2⟩ := q
    have e1 := q1 vs h3
    have e2 := q2 ws h4
    rw [hv] at e1
    rw [hv2] at e2
    cases e1
    cases e2
    exact ⟨T, [v, v2], _, hT, eH, ez, rfl, .cons w (.cons w2 .nil)⟩
  · have hi' : min xs.length ys.length ≤ i := by rw [← zipD_length]; exact hi
    rw [r.length, r'.length]
    omega
end
def zipOf : List D → Option (List D)
  | [.lst xs, .lst ys] => some (zipD xs ys)
  | [.tup xs, .tup ys] => some (zipD xs ys)
  | [.ftup xs, .tup ys] => some (zipD xs ys)
  | [.ftup xs, .ftup ys] => some (zipD xs ys)
  | _ => none
def lZip (t : LA) : LI := fun ρ S => (t ρ S).bind fun ds S1 => match zipOf ds with
  | some items => .ok ⟨items, fun _ => True⟩ S1
  | none => .bad
section
variable {X : Cx} {e e2 : Expr} {t : LA} {p pos tpos : Pos} {elts : List Expr} {kk : Nat}
theorem pil_zip (hg : Gl X "zip") (hm : X.mg "zip" = none) (ha : PAL X [e, e2] t)
    (hs : starEach [e, e2] X.env = (false, eval e X.env) :: starEach [e2] X.env := by rfl) (hpl : (backTo pos (starEach [e2] X.env)).any (·.1) = false := by rfl) :
    PIL X (.Tuple elts kk tpos) (.Call (.Name "zip" p) [e, e2] [] pos) (lZip t) := by
  refine ⟨fun pins s σ H Rr I ⟨m, ρ, S, x, er, hp, k⟩ => ?_⟩
  refine (RZ.pi_zipA (elts := elts) (kk := kk) (tpos := tpos) (p := p) (pos := pos) hg hm ha.pa hs hpl).run pins s σ H Rr I ⟨m, ρ, S, x, er, hope_seq hp, fun ds S1 q vs H1 m1 e1 x1 w => ?_⟩
  unfold lZip at hp
  rw [q, bind_ok] at hp
  cases hz : zipOf ds with
  | none => rw [hz] at hp; exact absurd rfl hp.1
  | some items =>
    have e0 : lZip t ρ S = .ok ⟨items, fun _ => True⟩ S1 := by unfold lZip; rw [q, bind_ok, hz]
    unfold zipOf at hz
    split at hz
    · cases hz
      obtain ⟨y, z, rfl, w1, w2⟩ := w.two
      obtain ⟨a, us, rfl, r1, h1, st1⟩ := sql_stays w1
      obtain ⟨b, ws, rfl, r2, h2, st2⟩ := sql_stays w2
      exact ⟨a, b, us, ws, rfl, .inl ⟨h1, h2, k _ S1 e0 _ H1 m1 e1 x1 (yl_zip x1.muts st1 st2 r1 r2)⟩⟩
    · cases hz
      obtain ⟨y, z, rfl, w1, w2⟩ := w.two
      obtain ⟨a, us, rfl, r1, h1, st1⟩ := sqt_stays x1.muts w1
      obtain ⟨b, ws, rfl, r2, h2, st2⟩ := sqt_stays x1.muts w2
      exact ⟨a, b, us, ws, rfl, .inr ⟨h1, h2, k _ S1 e0 _ H1 m1 e1 x1 (yl_zipT x1.muts st1 st2 r1 r2)⟩⟩
    · cases hz
      obtain ⟨y, z, rfl, w1, w2⟩ := w.two
      obtain ⟨a, us, rfl, r1, h1, st1⟩ := sqf_stays x1.muts w1
      obtain ⟨b, ws, rfl, r2, h2, st2⟩ := sqt_stays x1.muts w2
      exact ⟨a, b, us, ws, rfl, .inr ⟨h1, h2, k _ S1 e0 _ H1 m1 e1 x1 (yl_zipT x1.muts st1 st2 r1 r2)⟩⟩
    · cases hz
      obtain ⟨y, z, rfl, w1, w2⟩ := w.two
      obtain ⟨a, us, rfl, r1, h1, st1⟩ := sqf_stays x1.muts w1
      obtain ⟨b, ws, rfl, r2, h2, st2⟩ := sqf_stays x1.muts w2
      exact ⟨a, b, us, ws, rfl, .inr ⟨h1, h2, k _ S1 e0 _ H1 m1 e1 x1 (yl_zipT x1.muts st1 st2 r1 r2)⟩⟩
    · cases hz
/-! ### pairs of texts by < -/
def ltP (a b c d : Str) : Bool := if a = c then (if b = d then false else decide (b.cps.toList < d.cps.toList)) else decide (a.cps.toList < c.cps.toList)
def gLtP : G2 := g2T fun xs ys => match xs, ys with
  | [.str a, .str b], [.str c, .str d] => some (.bl (ltP a b c d))
  | _, _ => none
theorem rc_lt_str {A : Around} {s : Shared} (a b : Str) (t u : Tok) : Ob.RcOp .Lt A s (.str a t) (.str b u) (decide (a.cps.toList < b.cps.toList)) := fun _ _ _ _ h => by
  show wpAny _ _ (compareOp .Lt (.str a t) (.str b u)) _ _ _
  exact PyProof.Rows.lt_str h
theorem opl_ltP (hu : X.A.units + 64 < cLine) : OpL X (compareOp .Lt) gLtP := ⟨fun pins s σ H m S x y dx dy d v u I q rx ry ex ey e0 => by
  obtain ⟨xs, ys, e1, e2, e3⟩ := (show ∃ i j, vw S dx = .tup i ∧ vw S dy = .tup j ∧ _ from g2T_inv e0)
  split at e3
  · rename_i a b c d'
    cases e3
    obtain ⟨p, vs, rfl, h1, r1⟩ := vw_tup rx e1
    obtain ⟨p2, ws, rfl, h2, r2⟩ := vw_tup ry e2
    obtain rfl : v = Value.ref p := ex
    obtain rfl : u = Value.ref p2 := ey
    obtain ⟨v1, v2, rfl, w1, w2⟩ := r1.two
    obtain ⟨z1, z2, rfl, k1, k2⟩ := r2.two
    cases w1
    cases w2
    cases k1
    cases k2
    obtain ⟨its, rv, pp, hz⟩ := I.tuple (SqT.of h1)
    obtain ⟨its2, rv2, pp2, hz2⟩ := I.tuple (SqT.of h2)
    cases rv with
    | cons ra rr =>
      cases rr with
      | cons rb rn =>
        cases rn
        obtain ⟨ta, rfl⟩ := ra
        obtain ⟨tb, rfl⟩ := rb
        cases rv2 with
        | cons rc rr2 =>
          cases rr2 with
          | cons rd rn2 =>
            cases rn2
            obtain ⟨tc, rfl⟩ := rc
            obtain ⟨td, rfl⟩ := rd
            have R := Ob.RcOp.tuples_lt (A := X.A) (s := s) (e := fun j => if j = 0 then (a == c) else (b == d')) (r := fun j => if j = 0 then decide (a.cps.toList < c.cps.toList) else decide (b.cps.toList < d'.cps.toList)) pp pp2 (by omega)
              (fun j h1 h2 => by
                match j, h1 with
                | 0, _ => exact SeqAt.EqAt.str_str a ta c tc
                | 1, _ => exact SeqAt.EqAt.str_str b tb d' td
                | n + 2, h => simp at h; omega)
              (fun j h1 h2 _ => by
                match j, h1 with
                | 0, _ => exact rc_lt_str a c ta tc
                | 1, _ => exact rc_lt_str b d' tb td
                | n + 2, h => simp at h; omega)
            have e5 : Ob.lexAt (fun j => if j = 0 then (a == c) else (b == d')) (fun j => if j = 0 then decide (a.cps.toList < c.cps.toList) else decide (b.cps.toList < d'.cps.toList)) (decide ([Value.str a ta, Value.str b tb].toArray.size < [Value.str c tc, Value.str d' td].toArray.size)) 0 (min [Value.str a ta, Value.str b tb].toArray.size [Value.str c tc, Value.str d' td].toArray.size) = ltP a b c d' := by
              show (if (a == c) = true then (if (b == d') = true then decide ((2 : Nat) < 2) else decide (b.cps.toList < d'.cps.toList)) else decide (a.cps.toList < c.cps.toList)) = ltP a b c d'
              unfold ltP
              simp
            rw [e5] at R
            exact R X.prog X.w X.xe _ ⟨.bl (ltP a b c d'), H, m, I, rfl, Ext.refl, q, .bl _⟩
  · cases e3⟩
def gLt2 : G2 := fun S x y => ((gLtI S x y).or (gLtS S x y)).or (gLtP S x y)
theorem opl_lt2 (hu : X.A.units + 64 < cLine) : OpL X (compareOp .Lt) gLt2 := (opl_ltI.or opl_ltS).or (opl_ltP hu)
def gLe2 : G2 := fun S x y => (gLeI S x y).or (gLeS S x y)
theorem opl_le2 : OpL X (compareOp .LtE) gLe2 := opl_leI.or opl_leS
def gGt2 : G2 := fun S x y => (gGtI S x y).or (gGtS S x y)
theorem opl_gt2 : OpL X (compareOp .Gt) gGt2 := opl_gtI.or opl_gtS
end
end MP

/-! len(set(texts)) of any number of texts (the road of HandS.Strs, which serves one text at most) -/
namespace MP
open PySem PySem.Spec PyProof.Rows L2
/-- how many of the first i texts are met for the first time -/
def cntS (xs : List Str) : Nat → Nat
  | 0 => 0
  | i + 1 => if (xs.take i).any (· == xs.getD i Str.empty) = true then cntS xs i else cntS xs i + 1
theorem cntS_le (xs : List Str) : ∀ i, cntS xs i ≤ i
  | 0 => Nat.le_refl _
  | i + 1 => by
    have := cntS_le xs i
    unfold cntS
    split <;> omega
abbrev metS (xs : List Str) (i : Nat) : Str → Bool := fun k => (xs.take i).any (· == k)
theorem met_succ {xs : List Str} {i : Nat} (h : i < xs.length) (k : Str) : metS xs (i + 1) k = (metS xs i k || decide (k = xs.getD i Str.empty)) := by
  unfold metS
  rw [List.take_succ_eq_append_getElem h, List.any_append]
  have e : xs.getD i Str.empty = xs[i] := by simp [h]
  rw [e]
  by_cases q : k = xs[i]
  · subst q; simp
  · have : (xs[i] == k) = false := beq_eq_false_iff_ne.mpr fun z => q z.symm
    simp [this, q]
section
variable {P : Program} {w : World} {A : Around} {R : Result → Shared → Prop} {E : Value → Shared → Prop} {s : Shared}
theorem loopS {It : Addr} {fp wr : List Addr} {G : Array GenState → Array GenState → Prop} {n : Nat} {Pv : Nat → Value → Prop} {St : Nat → Shared → Prop} (W : WalksS P w A.in1 It fp wr G n Pv St) (a : Addr) (ha : a ∉ fp) (xs : List Str) (hn : xs.length = n) (hz : n ≤ 4000)
    (hv : ∀ i v, Pv i v → ∃ t, v = .str (xs.getD i Str.empty) t) : ∀ (k i : Nat) (s : Shared), n - i = k → i ≤ n → St i s → s.heap.SetOf (PySem.strKind P w) a (metS xs i) (cntS xs i) →
      (∀ s', Moved (a :: wr) G s s' → s'.heap.SetOf (PySem.strKind P w) a (metS xs n) (cntS xs n) → R (.ok (.ret .none)) s') →
      codeAny (model P w) A (.builtin "set.update.loop" ⟨[.ref a, .ref It], []⟩) R s := by
  have naw : a ∉ wr := fun z => ha (W.sub _ z)
  have sub : ∀ b ∈ wr, b ∈ a :: wr := fun b hb => List.mem_cons_of_mem _ hb
  have stay : ∀ {h h' : Heap} {T : Str → Bool} {c : Nat}, (∀ o, h.get? a = some o → h'.get? a = some o) → h.SetOf (PySem.strKind P w) a T c → h'.SetOf (PySem.strKind P w) a T c := fun {h h' T c} k ⟨o, es, ep, t, e, r⟩ => ⟨o, es, ep, t, k o e, r⟩
  intro k
  induction k with
  | zero =>
    intro i s e0 hi st hS hR
    obtain rfl : i = n := by omega
    refine codeAny_builtin PyProof.Rows.F.entry_set_update_loop ?_
    rw [Around.under_plainId PyProof.Rows.F.plain_set_update_loop _]
    show wpAny _ A.in1 (pyNext (.ref It) >>= _) _ _ s
    exact wpAny_bind (W.done s _ _ st fun s' mv => wpAny_pure (hR s' (mv.mono sub) (stay (fun o e => mv.heap a _ naw e) hS)))
  | succ k ih =>
    intro i s e0 hi st hS hR
    have lt : i < n := by omega
    refine codeAny_builtin PyProof.Rows.F.entry_set_update_loop ?_
    rw [Around.under_plainId PyProof.Rows.F.plain_set_update_loop _]
    show wpAny _ A.in1 (pyNext (.ref It) >>= _) _ _ s
    refine wpAny_bind (W.item i s _ _ lt st fun v s' pv st' mv => ?_)
    obtain ⟨t, rfl⟩ := hv i v pv
    have hS' := stay (fun o e => mv.heap a _ naw e) hS
    show wpAny _ A.in1 (holding [Value.str (xs.getD i Str.empty) t] (setAdd a (.str (xs.getD i Str.empty) t)) >>= _) _ _ s'
    refine wpAny_bind (wpAny_holding ?_)
    unfold setAdd
    refine wpAny_holding (wpAny_bind ((PySem.strKind P w).pyHash (k := xs.getD i Str.empty) (strKind_is _ _ _ _) ?_))
    have hc := cntS_le xs i
    refine wpAny_setAddHashed_of (knd := PySem.strKind P w) (s := { s' with toks := s'.toks + 1 }) (strKind_is _ _ _ _) rfl hS' (by unfold scanBound; omega) fun h' hb hS2 => ?_
    have hS3 : h'.SetOf (PySem.strKind P w) a (metS xs (i + 1)) (cntS xs (i + 1)) := SetOf_congr hS2 (fun k => (met_succ (by omega) k).symm) rfl
    refine wpAny_pure ⟨plainId_quiet PyProof.Rows.F.plain_set_update_loop _, ih (i + 1) _ (by omega) lt (W.frame _ s' _ _ st' (Nat.le_succ _) fun b hb' o e => ?_) hS3 fun s'' mv2 hS4 => ?_⟩
    · rw [hb.2 b fun z : b = a => ha (by rw [← z]; exact hb')]; exact e
    · refine hR s'' (Moved.trans W.gtrans ((mv.mono sub).then_heap (Nat.le_succ _) fun b o hb' e => ?_) mv2) hS4
      rw [hb.2 b fun z : b = a => hb' (by rw [z]; exact List.mem_cons_self)]; exact e
set_option maxHeartbeats 3200000 in
theorem set_texts {l : Addr} {vs : Array Value} {xs : List Str} {Q : Value → Shared → Prop} (hd : A.handled = none) (hl : s.heap.IsList l vs) (hx : StrsAre vs.toList xs) (hz : xs.length ≤ 4000)
    (q : ∀ (h' : Heap) (tk : Nat), h'.SetOf (PySem.strKind P w) s.heap.objs.size (metS xs vs.size) (cntS xs vs.size) → (∀ b o, b < s.heap.objs.size → s.heap.get? b = some o → h'.get? b = some o) → Q (.ref s.heap.objs.size) { s with heap := h', toks := tk }) :
    wpAny (model P w) A (call (.type "set") [.ref l]) Q E s := by
  -- the new, empty set
  obtain ⟨N, hN⟩ : ∃ N : Bool → Heap, N = fun led => s.heap.push { cls := .type "set", dict := none, data := .set #[] 0 (.fresh 0 0 led) } := ⟨_, rfl⟩
  obtain ⟨c, tl, mro⟩ := PySem.F.called_set.mro
  have f1 := PySem.F.called_set.made
  have f2 := PySem.F.called_set.sub
  have f3 := PySem.F.called_set.notType
  have f4 := PySem.F.called_set.canCreate
  have f5 := PySem.F.typeCall_set_1 (.ref l)
  refine wpAny_call (codeAny_of_tree ?_)
  show wpAny _ _ (callAny (.type "set") _) _ _ _
  refine wpAny_pure ⟨Code.quiet_builtin _ (by decide +kernel), codeAny_builtin PySem.F.entry_type_call ?_⟩
  rw [Around.under_plain (weight_type_call_type "set" [.ref l] []) rfl]
  repeat (any_goals (first | assumption | wp_step))
  refine codeAny_mono (code_set_new_1 (.ref l) (E := E) (Q₁ := fun u s1 => ∃ led : Bool, u = .ref s.heap.objs.size ∧ s1 = { s with heap := s.heap.push { cls := .type "set", dict := none, data := .set #[] 0 (.fresh 0 0 led) } }) fun led => ⟨led, rfl, rfl⟩) fun r s1 hr => ?_
  rcases r with e | (_ | _ | _ | u)
  · exact hr
  · exact hr.elim
  · exact hr.elim
  · exact hr.elim
  obtain ⟨led, rfl, rfl⟩ := hr
  have at0 : (s.heap.push { cls := .type "set", dict := none, data := .set #[] 0 (.fresh 0 0 led) }).get? s.heap.objs.size = some { cls := .type "set", dict := none, data := .set #[] 0 (.fresh 0 0 led) } := Heap.get?_push_size _ rfl
  have ty0 : Shared.TypeIs { s with heap := s.heap.push { cls := .type "set", dict := none, data := .set #[] 0 (.fresh 0 0 led) } } (.ref s.heap.objs.size) "set" := ⟨_, at0, rfl⟩
  have g1 := PySem.F.called_set.init.lookup
  have g2 := PySem.F.called_set.init.bind (.ref s.heap.objs.size)
  repeat (any_goals (first | assumption | wp_step))
  refine codeAny_mono (codeAny_call_builtin (R := wants (fun r s2 => r = .none ∧ ∃ h' tk, s2 = { s with heap := h', toks := tk } ∧ h'.SetOf (PySem.strKind P w) s.heap.objs.size (metS xs vs.size) (cntS xs vs.size) ∧
    (∀ b o, b < s.heap.objs.size → s.heap.get? b = some o → h'.get? b = some o)) E) PySem.F.called_set.init.plain PySem.F.entry_set_init (check_set_init_1 ty0 ?_)) fun r2 s2 hr2 => ?_
  · obtain ⟨⟨lc, ld, lda, lsl⟩, el, ec, ln, ed⟩ := hl
    simp only at ec ed
    subst ec
    subst ed
    have hlt : l < s.heap.objs.size := Heap.lt_size el
    have el2 : (s.heap.push { cls := .type "set", dict := none, data := .set #[] 0 (.fresh 0 0 led) }).get? l = some { cls := .type "list", dict := ld, data := .seq vs ln, slots := lsl } := Heap.get?_push_of_some _ el
    have hl1 : (s.heap.push { cls := .type "set", dict := none, data := .set #[] 0 (.fresh 0 0 led) }).IsList l vs := ⟨_, el2, rfl, ln, rfl⟩
    have k1 := PySem.F.sub_list_set
    have k2 := PySem.F.sub_list_frozenset
    have k3 : (Value.type "list" == Value.type "dict") = false := by decide
    unfold Builtin.«set.__init__» noKeywords Builtin.Frozenset.updateFrom
    generalize hPI : pyIter = PI
    wp_walk
    subst hPI
    refine wpAny_pyIter_list hl1 (wpAny_bind (wpAny_runValue ?_))
    have hh3 : A.in1.in1.in1.handled = none := by simp [hd]
    have n1 : l ≠ (s.heap.push { cls := .type "set", dict := none, data := .set #[] 0 (.fresh 0 0 led) }).objs.size := by
      rw [Heap.size_push]; exact Nat.ne_of_lt (Nat.lt_succ_of_lt hlt)
    have n2 : s.heap.objs.size ∉ [(s.heap.push { cls := .type "set", dict := none, data := .set #[] 0 (.fresh 0 0 led) }).objs.size, l] := by
      rw [Heap.size_push]
      simp only [List.mem_cons, List.not_mem_nil, or_false, not_or]
      exact ⟨Nat.ne_of_lt (Nat.lt_succ_self _), Nat.ne_of_gt hlt⟩
    have hsz : xs.length = vs.size := by rw [← StrsAre.len_eq hx, Array.length_toList]
    refine loopS ((Walks.list hh3 _ l n1 vs).toS) s.heap.objs.size n2 xs hsz (by rw [← hsz]; exact hz) (fun i v hv => SS.strs_at hx i v (by rw [Array.getElem?_toList]; exact hv)) (vs.size - 0) 0 _ (by omega) (Nat.zero_le _) ⟨⟨_, Heap.get?_push_size _ rfl, rfl, rfl⟩, (hl1.push _)⟩ ?_ fun s' mv hS => ?_
    · exact SetOf_congr ((setObjOf_fresh (knd := PySem.strKind P w) led).setOf (Heap.get?_push_of_some _ at0) (by unfold scanBound; omega)) (fun _ => rfl) rfl
    · obtain ⟨h', g', d', tk', os'⟩ := s'
      have e1 : g' = s.gens := mv.gens
      have e2 : d' = s.drawn := mv.drawn
      have e3 : os' = s.os := mv.os
      subst e1
      subst e2
      subst e3
      show wpAny _ _ _ _ _ _
      refine wpAny_pure ?_
      show wpAny _ _ (ret Value.none) _ _ _
      refine wpAny_pure ⟨rfl, h', tk', rfl, hS, fun b o hb e => mv.heap b o ?_ (Heap.get?_push_of_some _ (Heap.get?_push_of_some _ e))⟩
      rw [Heap.size_push]
      simp only [List.mem_cons, List.not_mem_nil, or_false, not_or]
      exact ⟨Nat.ne_of_lt hb, Nat.ne_of_lt (Nat.lt_succ_of_lt hb)⟩
  · rcases r2 with e | (_ | _ | _ | u)
    · exact hr2
    · exact hr2.elim
    · exact hr2.elim
    · exact hr2.elim
    obtain ⟨rfl, h', tk, rfl, hS, hk⟩ := hr2
    repeat (any_goals (first | assumption | wp_step))
    exact q _ _ hS hk
end
/-- len(set(a list of texts)) -/
def gLenSet : GC := fun S ds => match ds with
  | [d] => match vw S d with
    | .lst l => match strsD l with
      | some ys => if ys.length ≤ 4000 then some (.int (cntS ys ys.length : Int)) else none
      | none => none
    | _ => none
  | _ => none
theorem pel_lenSet {X : Cx} {a : Expr} {t : LA} {p p2 q pos : Pos} (hc : X.calm = true) (hg : Gl X "len") (hm : X.mg "len" = none) (hg2 : Gl X "set") (hm2 : X.mg "set" = none) (ha : PAL X [a] t)
    (na : starEach [a] X.env = (false, eval a X.env) :: starEach [] X.env := by rfl) : PEL X (.Call (.Name "len" p) [.Call (.Name "set" p2) [a] [] q] [] pos) (lCallB gLenSet t) := by
  refine ⟨fun pins s σ H m ρ S I x r hp => ?_⟩
  refine Call_ (ld_blt I hg hm boot_len ?_)
  refine PyProof.Rows.callWith_builtin1 (PyProof.Rows.args_cons ?_ rfl) rfl rfl
  refine Call_ (ld_blt I hg2 hm2 boot_set ?_)
  refine PyProof.Rows.callWith_type1 (run_seqA ha I x r hp fun ds S1 q1 vs us s1 H1 m1 I1 rv e1 x1 w1 r1 hp1 => ?_) na rfl
  obtain ⟨d, q2⟩ := lift_ok hp1
  have e0 : lCallB gLenSet t ρ S = .ok d S1 := by unfold lCallB; rw [q1, bind_ok, q2]; rfl
  rw [e0]
  unfold gLenSet at q2
  split at q2
  · split at q2
    · rename_i l hl
      split at q2
      · rename_i ys hs
        split at q2
        · rename_i hz
          cases q2
          obtain ⟨v, rfl, w⟩ := w1.one
          have he := strsD_eq hs
          subst he
          obtain ⟨b, ws, rfl, h1, r2⟩ := vw_lst x1 w hl
          have hv := vrs_strs r2
          subst hv
          rw [Vals.ref1 rv]
          obtain ⟨its, rv2, pl, hz2⟩ := I1.list h1
          have hlen : its.toArray.size = ys.length := by rw [List.size_toArray, ← rv2.length, List.length_map]
          refine set_texts (I1.ok.hd hc) pl.isList (by simpa using strs_of_vals rv2) hz fun h' tk hS hk => ?_
          refine PyProof.Rows.args_nil ?_
          rw [hlen] at hS
          obtain ⟨o, es, ep, t', ho, hex, hd, _, _, hb, hf, hn⟩ := hS
          have I2 : Inv X pins σ H1 { s1 with heap := h', toks := tk } := I1.kept fun b o e => hk b o (Heap.lt_size e) e
          exact call_len_set ho hex hd hf (by unfold scanBound at hb; omega) ((vpr_of ⟨.int (cntS ys ys.length : Int), H1, m1, I2.tok _, ⟨_, by rw [hn]⟩, Ext.refl, x1, .int _⟩).left e1)
        · cases q2
      · cases q2
    · cases q2
  · cases q2
end MP

/-! x[::-1], x[a:b] * k, a, b, c = .., isinstance(e, (C, ..)) of an exception -/
namespace MP
open PySem PySem.Spec PyProof.Rows L2
theorem VRs.reverse {K : PySem.W.Frag} {m : List Addr} {H : Hp} : ∀ {vs : List V} {ds : List D}, VRs K m H vs ds → VRs K m H vs.reverse ds.reverse
  | _, _, .nil => .nil
  | _, _, .cons h r => by
    rw [List.reverse_cons, List.reverse_cons]
    exact r.reverse.append (.cons h .nil)
theorem VRs.rep {K : PySem.W.Frag} {m : List Addr} {H : Hp} {vs : List V} {ds : List D} (r : VRs K m H vs ds) : ∀ n : Nat, VRs K m H (List.replicate n vs).flatten (List.replicate n ds).flatten
  | 0 => .nil
  | n + 1 => by
    rw [List.replicate_succ, List.replicate_succ, List.flatten_cons, List.flatten_cons]
    exact r.append (r.rep n)
/-- a text backwards, as the model says it -/
def revS (z : Str) : Str := ⟨((Builtin.Str.strSliceIndices none none (-1) z.length).filterMap (z.cps[·]?)).toArray⟩
def gRev (S : Sto) (d : D) : Option D := match vw S d with
  | .lst xs => some (.lst xs.reverse)
  | .str z => if (revS z).length ≤ sizeLine then some (.str (revS z)) else none
  | _ => none
section
variable {X : Cx} {e b : Expr} {le lb : LE} {k : Nat} {p1 p2 p3 pos : Pos}
/-! ### a, b, c = .. -/
def lPar3 (i j l : Nat) (t : LA) : LS := fun ρ S => liftX ρ (t ρ S) fun ds S1 => match ds with
  | [a, b, c] => .ok (.nx (((ρ.set i (some a)).set j (some b)).set l (some c))) S1
  | _ => .bad
theorem psl_par3 {i j l : Nat} {x y z : Str} {a b c : Expr} {t : LA} {px py pz pt pos : Pos} {kt k2 pt2} (hc : X.calm = true) (hN : X.N.Nodup) (ha : PAL X [a, b, c] t) (hi : X.N[i]? = some x := by rfl) (hj : X.N[j]? = some y := by rfl) (hl : X.N[l]? = some z := by rfl)
    (hij : i ≠ j := by decide) (hil : i ≠ l := by decide) (hjl : j ≠ l := by decide)
    (hx : X.env.scope.names.lookup x = some .local := by rfl) (hy : X.env.scope.names.lookup y = some .local := by rfl) (hz : X.env.scope.names.lookup z = some .local := by rfl)
    (hw : swappedStores [.Tuple [.Name x px, .Name y py, .Name z pz] kt pt] (.Tuple [a, b, c] k2 pt2) X.env = pure (some [x, y, z]) := by rfl)
    (hs : swapsWithSole [.Tuple [.Name x px, .Name y py, .Name z pz] kt pt] (.Tuple [a, b, c] k2 pt2) pos.line X.env = pure false := by rfl) :
    PSL X (.Assign [.Tuple [.Name x px, .Name y py, .Name z pz] kt pt] (.Tuple [a, b, c] k2 pt2) pos) (lPar3 i j l t) := by
  refine ps_imp (ps_par3 hc hN hi hj hl hij hil hjl hx hy hz ha.pa hw hs) fun D σ H ⟨m, ρ, S, x0, er, hl, h⟩ => ?_
  have h' : HS X D m H (liftX ρ (t ρ S) fun ds S1 => match ds with
    | [a, b, c] => .ok (.nx (((ρ.set i (some a)).set j (some b)).set l (some c))) S1
    | _ => .bad) := h
  refine ⟨m, ρ, S, x0, er, HS.hope h' er hl x0, fun ds S1 q vs H1 m1 e1 x1 w => ?_⟩
  rw [q] at h'
  have h2 := HS.ext h' e1
  have bad : ∀ {r : R Fl}, r = .bad → HS X D m1 H1 r → False := fun e z => by
    subst e
    obtain ⟨fl, S', q⟩ := z.ok
    cases q
  match ds, w with
  | [], _ => exact (bad rfl h2).elim
  | [_], _ => exact (bad rfl h2).elim
  | [_, _], _ => exact (bad rfl h2).elim
  | _ :: _ :: _ :: _ :: _, _ => exact (bad rfl h2).elim
  | [d1, d2, d3], .cons w1 (.cons w2 (.cons w3 .nil)) =>
    have er1 := er.ext e1 x0.muts
    exact ⟨_, _, _, rfl, h2.nx _ S1 rfl _ H1 (sv_same x1 (((er1.set w1).set w2).set w3) (by simp [hl]))⟩
/-! ### isinstance of an exception and a tuple of classes -/
open Classical in
noncomputable def tabT (K : PySem.W.Frag) (cs : List Value) : Addr → Option Bool := fun D => if ExcC K D then PySem.W.kitAny K (.ref D) cs else none
structure IsTOk (K : PySem.W.Frag) (cs : List Value) (tab : Addr → Option Bool) : Prop where
  one : ∀ C b, tab C = some b → PySem.W.kitAny K (.ref C) cs = some b ∧ ExcC K C
def refsV (Cs : List Addr) : List V := Cs.map V.ref
def refsU (Cs : List Addr) : List Value := Cs.map Value.ref
end
end MP

/-! a list's slice times a number -/
namespace MP
open PySem PySem.Spec PyProof.Rows L2
def lSlMul (la : LE) (lo hi : LO) (lb : LE) : LE := fun ρ S => (la ρ S).bind fun d S1 => (lo ρ S1).bind fun i S2 => (hi ρ S2).bind fun j S3 => match vw S3 d with
  | .lst xs => (lb ρ S3).bind fun y S4 => match y with
    | .int k => if 0 ≤ k ∧ k ≤ 1000 ∧ (cutD xs i j).length * k.toNat ≤ sizeLine then .ok (.lst (List.replicate k.toNat (cutD xs i j)).flatten) S4 else .bad
    | _ => .bad
  | _ => .bad
section
variable {X : Cx} {e b : Expr} {l lb : LE} {pos pos2 : Pos}
end
end MP

/-! small things -/
namespace MP
open PySem PySem.Spec PyProof.Rows L2
def lBad : LS := fun _ _ => .bad
/-- a statement that is never reached -/
theorem psl_bad {X : Cx} {st : Stmt} : PSL X st lBad := ⟨fun pins s σ H D I ⟨m, ρ, S, x, er, hl, h⟩ => by
  obtain ⟨fl, S', q⟩ := h.ok
  cases q⟩
def tabStr : Tab
  | .str => some true
  | _ => none
def tabTup : Tab
  | .tup => some true
  | _ => none
/-! ### how the words compute -/
theorem add2_ii {S : Sto} {i j : Int} : gAdd2 S (.int i) (.int j) = some (.int (i + j)) := rfl
theorem add2_ss {S : Sto} {i j : Str} (h : i.length + j.length ≤ sizeLine) : gAdd2 S (.str i) (.str j) = some (.str (i ++ j)) := by
  show (((if i.length + j.length ≤ sizeLine then some (D.str (i ++ j)) else none).or (gCat S (.str i) (.str j))).or _) = _
  rw [if_pos h]; rfl
theorem catL {S : Sto} {a b : List D} {x y : D} {c : List D} (e1 : vw S x = .lst a) (e2 : vw S y = .lst b) (h : a ++ b = c) (hz : c.length ≤ 100000) (n1 : gAdd S x y = none := by rfl) : gAdd2 S x y = some (.lst c) := by
  unfold gAdd2 gCatL g2L
  rw [n1, e1, e2]
  show (if a.length + b.length ≤ sizeLine then some (D.lst (a ++ b)) else none) = _
  rw [if_pos (by rw [← List.length_append, h]; exact Nat.le_trans hz (by decide)), h]
theorem ife_tt {t : LT} {la lb : LE} {ρ : Ev} {S S1 : Sto} {r : R D} (h : t ρ S = .ok true S1) (h2 : la ρ S1 = r) : lIf t la lb ρ S = r := by
  unfold lIf; rw [h, bind_ok, if_pos rfl]; exact h2
theorem ife_ff {t : LT} {la lb : LE} {ρ : Ev} {S S1 : Sto} {r : R D} (h : t ρ S = .ok false S1) (h2 : lb ρ S1 = r) : lIf t la lb ρ S = r := by
  unfold lIf; rw [h, bind_ok, if_neg Bool.false_ne_true]; exact h2
theorem andv_tt {la lb : LE} {ρ : Ev} {S S1 : Sto} {d : D} {r : R D} (h : la ρ S = .ok d S1) (ht : truth S1 d = some true) (h2 : lb ρ S1 = r) : lAndV la lb ρ S = r := by
  unfold lAndV; rw [h, bind_ok, ht]; exact h2
theorem andv_ff {la lb : LE} {ρ : Ev} {S S1 : Sto} {d : D} (h : la ρ S = .ok d S1) (ht : truth S1 d = some false) : lAndV la lb ρ S = .ok d S1 := by
  unfold lAndV; rw [h, bind_ok, ht]; rfl
theorem orv_tt {la lb : LE} {ρ : Ev} {S S1 : Sto} {d : D} (h : la ρ S = .ok d S1) (ht : truth S1 d = some true) : lOrV la lb ρ S = .ok d S1 := by
  unfold lOrV; rw [h, bind_ok, ht]; rfl
theorem orv_ff {la lb : LE} {ρ : Ev} {S S1 : Sto} {d : D} {r : R D} (h : la ρ S = .ok d S1) (ht : truth S1 d = some false) (h2 : lb ρ S1 = r) : lOrV la lb ρ S = r := by
  unfold lOrV; rw [h, bind_ok, ht]; exact h2
theorem asg_ok {g : GT} {l : LE} {ρ ρ1 : Ev} {S S1 : Sto} {d : D} (h : l ρ S = .ok d S1) (hg : g d ρ = some ρ1) : lAsg g l ρ S = .ok (.nx ρ1) S1 := by
  unfold lAsg; rw [h]
  show (match g d ρ with | some ρ1 => R.ok (Fl.nx ρ1) S1 | none => .bad) = _
  rw [hg]
theorem par3_ok {i j l : Nat} {t : LA} {ρ : Ev} {S S1 : Sto} {a b c : D} (h : t ρ S = .ok [a, b, c] S1) : lPar3 i j l t ρ S = .ok (.nx (((ρ.set i (some a)).set j (some b)).set l (some c))) S1 := by
  unfold lPar3; rw [h]; rfl
theorem chain_tt {g g' : G2} {la lb lc : LE} {ρ : Ev} {S S1 S2 S3 : Sto} {x y z d : D} (h1 : la ρ S = .ok x S1) (h2 : lb ρ S1 = .ok y S2) (h3 : g S2 x y = some (.bl true)) (h4 : lc ρ S2 = .ok z S3) (h5 : g' S3 y z = some d) : lChain g g' la lb lc ρ S = .ok d S3 := by
  unfold lChain; rw [h1, bind_ok, h2, bind_ok, h3]
  show ((lc ρ S2).bind fun z S4 => lift1 (g' S4 y z) S4) = _
  rw [h4, bind_ok, h5]; rfl
theorem chain_ff {g g' : G2} {la lb lc : LE} {ρ : Ev} {S S1 S2 : Sto} {x y : D} (h1 : la ρ S = .ok x S1) (h2 : lb ρ S1 = .ok y S2) (h3 : g S2 x y = some (.bl false)) : lChain g g' la lb lc ρ S = .ok (.bl false) S2 := by
  unfold lChain; rw [h1, bind_ok, h2, bind_ok, h3]; rfl
theorem slice_ok {g : Sto → D → Option Int → Option Int → Option D} {la : LE} {lo hi : LO} {ρ : Ev} {S S1 S2 S3 : Sto} {d e : D} {i j : Option Int} (h1 : la ρ S = .ok d S1) (h2 : lo ρ S1 = .ok i S2) (h3 : hi ρ S2 = .ok j S3) (h4 : g S3 d i j = some e) : lSlice g la lo hi ρ S = .ok e S3 := by
  unfold lSlice; rw [h1, bind_ok, h2, bind_ok, h3, bind_ok, h4]; rfl
theorem osome_ok {l : LE} {ρ : Ev} {S S1 : Sto} {i : Int} (h : l ρ S = .ok (.int i) S1) : oSome l ρ S = .ok (some i) S1 := by
  unfold oSome; rw [h]; rfl
theorem un_ok {g : Sto → D → Option D} {la : LE} {ρ : Ev} {S S1 : Sto} {x d : D} (h1 : la ρ S = .ok x S1) (h2 : g S1 x = some d) : lUn g la ρ S = .ok d S1 := by
  unfold lUn; rw [h1, bind_ok, h2]; rfl
theorem zip_ok {t : LA} {ρ : Ev} {S S1 : Sto} {ds items : List D} (h : t ρ S = .ok ds S1) (h2 : zipOf ds = some items) : lZip t ρ S = .ok ⟨items, fun _ => True⟩ S1 := by
  unfold lZip; rw [h, bind_ok, h2]
/-- a comprehension with a test -/
theorem comp_skip {ρ0 ρ1 : Ev} {chk : Sto → Prop} {g : GT} {tt : LT} {te : LE} {d : D} {ds : List D} {S S1 : Sto} {r : R (List D)} (hc : chk S) (hg : g d ρ0 = some ρ1) (ht : tt ρ1 S = .ok false S1) (h2 : compG chk g tt te ρ0 ds S1 = r) : compG chk g tt te ρ0 (d :: ds) S = r := by
  unfold compG; rw [if_pos hc, hg]; show (noex (tt ρ1 S)).bind _ = _; rw [ht]; exact h2
theorem comp_take {ρ0 ρ1 : Ev} {chk : Sto → Prop} {g : GT} {tt : LT} {te : LE} {d y : D} {ds ys : List D} {S S1 S2 S3 : Sto} (hc : chk S) (hg : g d ρ0 = some ρ1) (ht : tt ρ1 S = .ok true S1) (he : te ρ1 S1 = .ok y S2) (h2 : compG chk g tt te ρ0 ds S2 = .ok ys S3) : compG chk g tt te ρ0 (d :: ds) S = .ok (y :: ys) S3 := by
  unfold compG; rw [if_pos hc, hg]; show (noex (tt ρ1 S)).bind _ = _; rw [ht]
  show (noex (te ρ1 S1)).bind _ = _
  rw [he]
  show (compG chk g tt te ρ0 ds S2).bind _ = _
  rw [h2]; rfl
/-- over any items, some kept: the store stays -/
theorem comp_filter {α : Type} {chk : Sto → Prop} {g : GT} {tt : LT} {te : LE} {ρ0 : Ev} {S : Sto} {enc f : α → D} {p : α → Bool} (hc : chk S) : ∀ xs : List α, (∀ x ∈ xs, ∃ ρ1, g (enc x) ρ0 = some ρ1 ∧ tt ρ1 S = .ok (p x) S ∧ (p x = true → te ρ1 S = .ok (f x) S)) →
    compG chk g tt te ρ0 (xs.map enc) S = .ok ((xs.filter p).map f) S
  | [], _ => comp_end hc
  | x :: xs, h => by
    obtain ⟨ρ1, h1, h2, h3⟩ := h x (by simp)
    have ih := comp_filter (f := f) hc xs fun y hy => h y (by simp [hy])
    cases q : p x with
    | true =>
      rw [q] at h2
      rw [List.filter_cons_of_pos q, List.map_cons, List.map_cons]
      exact comp_take hc h1 h2 (h3 q) ih
    | false =>
      rw [q] at h2
      rw [List.filter_cons_of_neg (by rw [q]; exact Bool.false_ne_true), List.map_cons]
      exact comp_skip hc h1 h2 ih
theorem comp_map {α : Type} {chk : Sto → Prop} {g : GT} {te : LE} {ρ0 : Ev} {S : Sto} {enc f : α → D} (hc : chk S) (xs : List α) (h : ∀ x ∈ xs, ∃ ρ1, g (enc x) ρ0 = some ρ1 ∧ te ρ1 S = .ok (f x) S) : compG chk g tYesL te ρ0 (xs.map enc) S = .ok (xs.map f) S := by
  have := comp_filter (p := fun _ => true) (tt := tYesL) (f := f) hc xs fun x hx => by
    obtain ⟨ρ1, h1, h2⟩ := h x hx
    exact ⟨ρ1, h1, rfl, fun _ => h2⟩
  rw [List.filter_eq_self.mpr (fun _ _ => rfl)] at this
  exact this
theorem bls_map {α : Type} (f : α → Bool) : ∀ xs : List α, blsOf (xs.map fun x => D.bl (f x)) = some (xs.map f)
  | [] => rfl
  | x :: xs => by simp [blsOf, bls_map f xs]
theorem all_ok {α : Type} {S : Sto} (f : α → Bool) (xs : List α) : gAll S [.lst (xs.map fun x => D.bl (f x))] = some (.bl (xs.all f)) := by
  show (blsOf (xs.map fun x => D.bl (f x))).map (fun bs => D.bl (bs.all id)) = _
  rw [bls_map]
  simp [List.all_map]
theorem comp_okL {li : LI} {ix : List Nat} {g : GT} {tt : LT} {te : LE} {ρ : Ev} {S S1 S2 : Sto} {it : Its'} {ys : List D} (h : li ρ S = .ok it S1) (hl : it.items.length ≤ 100000) (h2 : compG it.chk g tt te (wipeE ρ ix) it.items S1 = .ok ys S2) : lComp li ix g tt te ρ S = .ok (.lst ys) S2 := by
  unfold lComp compL
  rw [h, bind_ok, if_pos (Nat.le_trans hl (by decide)), h2, bind_ok]
theorem vw_ref {S : Sto} {j : Nat} {xs : List D} (h : S[j]? = some (.lst xs)) : vw S (.ref j) = .lst xs := by unfold vw; dsimp only; rw [h]
theorem set_self {S : Sto} {j : Nat} {o o' : O} (h : S[j]? = some o) : (S.set j o')[j]? = some o' := List.getElem?_set_self (List.getElem?_eq_some_iff.mp h).1
theorem sml {c : Int} (a : 0 ≤ c) (b : c < 10 ^ 100) : Sm c := Sm.of a b (by decide +kernel)
theorem ne_str {S : Sto} {t : Str} : gNe S (.str t) (.str t) = some (.bl false) := by rw [ne_ss, decide_eq_true rfl]; rfl
end MP

/-! sets of texts with a table that can be walked: sorted(set(texts)) (the road that HandS.Set takes for ints) -/
namespace MP
open PySem PySem.Spec PyProof.Rows L2
def keyS (e : Int × Value) : Str := match e.2 with
  | .str k _ => k
  | _ => Str.empty
def GoodS (w : World) (e : Int × Value) : Prop := ∃ k tk, e.2 = Value.str k tk ∧ e.1 = hashStr w k
/-- the members, their number; the table rises -/
structure SetS (w : World) (h : Heap) (a : Addr) (T : Str → Bool) (n : Nat) : Prop where
  ex : ∃ o es ep t, h.get? a = some o ∧ o.ExactSet ∧ o.data = .set es ep t ∧ (∀ e ∈ es.toList, GoodS w e) ∧ (es.toList.map keyS).Nodup ∧ (∀ k, T k = true ↔ k ∈ es.toList.map keyS) ∧ es.size < scanBound ∧ t.fits es.size = true ∧ es.size = n ∧ Ris t.place.toList ∧ (w.params.followText "set-order" = true ∨ t.led = true)
section
variable {P : Program} {w : World} {h h' : Heap} {a : Addr} {T : Str → Bool} {n : Nat}
theorem SetS.keep (R : SetS w h a T n) (k : ∀ o, h.get? a = some o → h'.get? a = some o) : SetS w h' a T n := by
  obtain ⟨o, es, ep, t, ho, r⟩ := R.ex
  exact ⟨o, es, ep, t, k o ho, r⟩
theorem SetS.congr {T' : Str → Bool} {n' : Nat} (R : SetS w h a T n) (e : ∀ k, T' k = T k) (en : n' = n) : SetS w h a T' n' := by
  have q : T' = T := funext e
  rw [q, en]; exact R
end
section
variable {P : Program} {w : World} {A : Around} {E : Value → Shared → Prop} {s : Shared} {a : Addr} {T : Str → Bool} {n : Nat}
end
end MP

/-! set(texts) made of a list; sorted(set(texts)) -/
namespace MP
open PySem PySem.Spec PyProof.Rows L2
section
variable {P : Program} {w : World} {A : Around} {R : Result → Shared → Prop} {E : Value → Shared → Prop} {s : Shared}
def keyV : Value → Str
  | .str k _ => k
  | _ => Str.empty
end
end MP

/-! sorted(set(a list of texts)) as an expression -/
namespace MP
open PySem PySem.Spec PyProof.Rows L2
def nubS : List Str → List Str
  | [] => []
  | x :: r => if x ∈ r then nubS r else x :: nubS r
def leS (a b : Str) : Bool := decide (a.cps.toList ≤ b.cps.toList)
def srtS (ys : List Str) : List Str := (nubS ys).mergeSort leS
/-- sorted(set(a list of texts)) -/
def gSortSet : GC := fun S ds => match ds with
  | [d] => match vw S d with
    | .lst l => match strsD l with
      | some ys => if ys.length ≤ 4000 then some (.lst ((srtS ys).map D.str)) else none
      | none => none
    | _ => none
  | _ => none
end MP

/-! a list, a tuple, times a number -/
namespace MP
open PySem PySem.Spec PyProof.Rows L2
theorem q_mul_int (l : Addr) (items : Array Value) (n : Nat) (d : Option Addr) (sl : Array (Option Value)) (x : Int) (u : Tok) (hc0 : ¬(!Builtin.List.listFitsIndex x) = true)
    (hc1 : ¬items.size * x.toNat > (2 ^ 63 - 1) / 8) (hc2 : ¬Builtin.List.listTooLong (items.size * x.toNat) = true) :
    Meets (Builtin.«list.__mul__» ⟨[.ref l, .int x u], []⟩) (fun _ R s => s.heap.get? l = some { cls := .type "list", dict := d, data := .seq items n, slots := sl } ∧ R (.ok (.ret (Value.ref s.heap.objs.size))) { s with heap := s.heap.push { cls := Value.type "list", data := Data.seq (List.foldl (fun x1 x2 => x1 ++ x2) #[] (List.replicate (if items.isEmpty = true then 0 else x.toNat) items)) }, toks := s.toks }) :=
  .of_wp fun prog w A R s h => by
    obtain ⟨hp, g, d, tk, os⟩ := s; obtain ⟨hl, h⟩ := h
    have hsz := AutoListH.joined_fits hc2
    wp_walk; refine wpAny_ite_false (decide_eq_false (Nat.not_lt.mpr hsz)) ?_; wp_walk; exact ⟨_, rfl, h⟩
theorem q_rmul_int (a : Int) (t : Tok) (l : Addr) (items : Array Value) (n : Nat) (d : Option Addr) (sl : Array (Option Value)) :
    Meets (Builtin.«int.__rmul__» ⟨[.int a t, .ref l], []⟩) (fun _ R s => s.heap.get? l = some { cls := .type "list", dict := d, data := .seq items n, slots := sl } ∧ R (.ok (.ret Value.notImplemented)) s) :=
  .of_wp fun prog w A R s h => by obtain ⟨hp, g, d, tk, os⟩ := s; obtain ⟨hl, h⟩ := h; wp_walk; exact ⟨_, rfl, h⟩
theorem q_tup_empty (l : Addr) (n : Nat) (dd : Option Addr) (sl : Array (Option Value)) (x : Int) (u : Tok) (c0 : (decide (x < -(2 ^ 63)) || decide (x ≥ 2 ^ 63)) = false) :
    Meets (Builtin.«tuple.__mul__» ⟨[.ref l, .int x u], []⟩) (fun _ R s => s.heap.get? l = some { cls := .type "tuple", dict := dd, data := .seq #[] n, slots := sl } ∧ R (.ok (.ret (Value.ref l))) s) :=
  .of_wp fun prog w A R s h => by
    obtain ⟨hp, g, d, tk, os⟩ := s
    obtain ⟨hl, h⟩ := h
    have f1 := AutoSeq1.idx_int
    wp_walk using wpAny_loadPart' hl
    refine wpAny_ite_false (decide_eq_false (by rw [c0]; exact Bool.false_ne_true)) ?_
    wp_walk using wpAny_loadPart' hl
    exact ⟨_, rfl, h⟩
section
variable {X : Cx}
theorem op_repL : OpR X (binaryOp .Mult) (fun x y H Q => ∃ a xs k, x = V.ref a ∧ y = V.int k ∧ SqL X.K H a xs ∧ 0 ≤ k ∧ k ≤ 1000 ∧ xs.length * k.toNat ≤ 1000000 ∧ ∀ p, H p = none → Q (.ref p) (upd H p (.lst (List.replicate k.toNat xs).flatten))) := by
  intro pins s σ H x y v u Q I rx ry h
  obtain ⟨a, xs, k, rfl, rfl, hs, k0, k1, hm, q⟩ := h
  obtain rfl : v = Value.ref a := rx
  obtain ⟨t, rfl⟩ := ry
  obtain ⟨its, rv, ⟨⟨cls, dd, data, sl⟩, n, ho, hc, hdn, hd⟩, hlen⟩ := I.list hs
  have hc1 : cls = Value.type "list" := hc
  have hd1 : data = Data.seq its.toArray n := hd
  subst hc1 hd1
  have hsl := sizeLine_eq
  have hz : its.toArray.size * k.toNat ≤ 1000000 := by rw [List.size_toArray, ← rv.length]; exact hm
  have hfit : ¬(!Builtin.List.listFitsIndex k) = true := by
    rw [fitsIndex_both (by omega) (by omega)]
    exact Bool.false_ne_true
  refine wpAny_binaryOp_repeat_ref (T := "list") (U := "int") (by decide) ⟨_, ho, rfl⟩ (fun s' => typeIs_int s' k t) noFill_list_mul F.fills_int_mul F.slot_int_rmul repeat_list F.slot_int_index.lookup
    (call_meets F.slot_int_rmul (typeIs_int s k t) F.entry_int_rmul (F.args_int_rmul_2 _ _) (q_rmul_int k t a its.toArray n dd sl)
      ⟨ho, rfl, ⟨_, ho, rfl⟩, call_meets F.slot_list_mul ⟨_, ho, rfl⟩ F.entry_list_mul (F.args_list_mul_2 _ _)
        (q_mul_int a its.toArray n dd sl k t hfit (by omega) (by simp only [Builtin.List.listTooLong, decide_eq_true_eq]; omega))
        ⟨ho, ?_⟩⟩)
  have e : List.foldl (fun x1 x2 => x1 ++ x2) #[] (List.replicate (if its.toArray.isEmpty = true then 0 else k.toNat) its.toArray) = (List.replicate k.toNat its).flatten.toArray := by
    rw [listMul_foldl_if]
  rw [e]
  refine ⟨.ref s.heap.objs.size, _, I.laid (t' := s.toks) (o := .lst (List.replicate k.toNat xs).flatten) (fun b o e => Heap.get?_push_of_some _ e) (Nat.le_refl _) ⟨?_, _, 0, rv.rep k.toNat, Heap.get?_push_size _ rfl⟩, rfl, q _ (I.hok.fresh (Nat.le_refl _))⟩
  rw [PyProof.Rows.lm_len_rep_flat, Nat.mul_comm]
  omega
theorem op_repE : OpR X (binaryOp .Mult) (fun x y H Q => ∃ a k, x = V.ref a ∧ y = V.int k ∧ SqT X.K H a [] ∧ 0 ≤ k ∧ k ≤ 1000 ∧ Q (.ref a) H) := by
  intro pins s σ H x y v u Q I rx ry h
  obtain ⟨a, k, rfl, rfl, hT, k0, k1, q⟩ := h
  obtain rfl : v = Value.ref a := rx
  obtain ⟨t, rfl⟩ := ry
  obtain ⟨its, r, ⟨⟨cls, dd, data, sl⟩, ho, hc, n, hd⟩, hs⟩ := I.tuple hT
  simp only at hc hd
  subst hc hd
  cases r
  have c0 : (decide (k < -(2 ^ 63)) || decide (k ≥ 2 ^ 63)) = false := by
    rw [decide_eq_false (by omega), decide_eq_false (by omega)]; rfl
  exact wpAny_binaryOp_repeat_ref (T := "tuple") (U := "int") (by decide) ⟨_, ho, rfl⟩ (fun s' => typeIs_int s' k t) noFill_tuple_mul F.fills_int_mul F.slot_int_rmul repeat_tuple F.slot_int_index.lookup
    (call_meets F.slot_int_rmul (typeIs_int s k t) F.entry_int_rmul (F.args_int_rmul_2 _ _) (int_rmul_tuple k t a #[] n dd sl)
      ⟨ho, rfl, ⟨_, ho, rfl⟩, call_meets F.slot_tuple_mul ⟨_, ho, rfl⟩ F.entry_tuple_mul (F.args_tuple_mul_2 _ _) (q_tup_empty a n dd sl k t c0) ⟨ho, ⟨.ref a, H, I, rfl, q⟩⟩⟩)
def gRepL : G2 := fun S dx dy => match vw S dx, dy with
  | .lst xs, .int k => if 0 ≤ k ∧ k ≤ 1000 ∧ xs.length * k.toNat ≤ 1000000 then some (.lst (List.replicate k.toNat xs).flatten) else none
  | _, _ => none
def gRepT : G2 := fun S dx dy => match vw S dx, dy with
  | .tup (x :: xs), .int k => if 2 ≤ k ∧ k ≤ 1000 ∧ (x :: xs).length ≤ 1000 then some (.tup (List.replicate k.toNat (x :: xs)).flatten) else none
  | _, _ => none
def gRepE : G2 := fun S dx dy => match vw S dx, dy with
  | .tup [], .int k => if 0 ≤ k ∧ k ≤ 1000 then some (.tup []) else none
  | _, _ => none
theorem opl_repL : OpL X (binaryOp .Mult) gRepL := .of op_repL fun H m S x y dx dy d q rx ry e => by
  unfold gRepL at e
  split at e
  · rename_i xs k e1
    split at e
    · rename_i hz
      cases e
      obtain ⟨a, vs, rfl, h1, r⟩ := vw_lst q rx e1
      cases ry
      exact ⟨a, vs, k, rfl, rfl, h1, hz.1, hz.2.1, by rw [r.length]; exact hz.2.2, fun p hp => qv_new q hp (vr_newLst q hp (r.rep _))⟩
    · cases e
  · cases e
theorem opl_repT : OpL X (binaryOp .Mult) gRepT := .of op_repT fun H m S x y dx dy d q rx ry e => by
  unfold gRepT at e
  split at e
  · rename_i z xs k e1
    split at e
    · rename_i hz
      cases e
      obtain ⟨a, vs, rfl, h1, r⟩ := vw_tup rx e1
      cases ry
      have hl := r.length
      refine ⟨a, k, vs, rfl, rfl, SqT.of h1, fun z => ?_, hz.1, hz.2.1, by rw [hl]; exact hz.2.2, fun p hp => qv_new q hp (vr_newTup q hp (r.rep _))⟩
      rw [z] at hl
      cases hl
    · cases e
  · cases e
theorem opl_repE : OpL X (binaryOp .Mult) gRepE := .of op_repE fun H m S x y dx dy d q rx ry e => by
  unfold gRepE at e
  split at e
  · rename_i k e1
    split at e
    · rename_i hz
      cases e
      obtain ⟨a, vs, rfl, h1, r⟩ := vw_tup rx e1
      cases ry
      cases r
      exact ⟨a, k, rfl, rfl, SqT.of h1, hz.1, hz.2, qv_same q (.tup h1 .nil)⟩
    · cases e
  · cases e
/-- a list, a tuple, a number: times a number -/
def gMulX : G2 := fun S x y => ((gMulI S x y).or (gRepL S x y)).or ((gRepT S x y).or (gRepE S x y))
theorem opl_mulX : OpL X (binaryOp .Mult) gMulX := (opl_mulI.or opl_repL).or (opl_repT.or opl_repE)
end
end MP

/-! a tuple backwards -/
namespace MP
open PySem PySem.Spec PyProof.Rows L2 HT
theorem adjust_rev (n : Nat) : Builtin.Slice.sliceAdjust none none (-1) (n : Int) = ((n : Int) - 1, -1) := by
  unfold Builtin.Slice.sliceAdjust
  simp
theorem places_rev (n : Nat) : Builtin.Slice.slicePlaces ((n : Int) - 1) (-1) (-1) = n := by
  unfold Builtin.Slice.slicePlaces
  rw [if_neg (by decide)]
  by_cases h : (n : Int) - 1 > -1
  · rw [if_pos h, show (- -1 : Int) = 1 by decide, Int.ediv_one]
    omega
  · rw [if_neg h]
    omega
theorem fm_congr {α β : Type} {f g : α → Option β} : ∀ {l : List α}, (∀ x ∈ l, f x = g x) → l.filterMap f = l.filterMap g
  | [], _ => rfl
  | x :: l, h => by
    have ih := fm_congr (f := f) (g := g) (l := l) fun y hy => h y (by simp [hy])
    rw [List.filterMap_cons, List.filterMap_cons, h x (by simp), ih]
theorem pick_rev (xs : Array Value) : ((List.range xs.size).filterMap fun (k : Nat) => xs[(((xs.size : Nat) : Int) - 1 + (k : Int) * -1).toNat]?).toArray = xs.toList.reverse.toArray := by
  have e : (List.range xs.size).filterMap (fun (k : Nat) => xs[(((xs.size : Nat) : Int) - 1 + (k : Int) * -1).toNat]?) = ((List.range xs.size).map fun k => xs.size - 1 - k).filterMap (xs[·]?) := by
    rw [List.filterMap_map]
    refine fm_congr fun k hk => ?_
    have := List.mem_range.mp hk
    show xs[_]? = xs[xs.size - 1 - k]?
    congr 1
    omega
  rw [e, PySem.W.krv_range, List.filterMap_reverse, PySem.W.krv_all]
section
variable {prog : Program} {w : World} {A : Around} {E : Value → Shared → Prop} {s : Shared}
theorem getItem_tuple_rev {t sl : Addr} {items : Array Value} {vl vu vs : Value} {Q : Value → Shared → Prop} (ht : IsTup s.heap t items) (hs : s.heap.IsSliceOf sl vl vu vs) (pl : IsPart vl none) (pu : IsPart vu none) (ps : IsPart vs (some (-1)))
    (h : Q (.ref s.heap.objs.size) { s with heap := s.heap.push { cls := .type "tuple", data := .seq items.toList.reverse.toArray } })
    (hsz : items.size ≤ sizeLine) : wpAny (model prog w) A (getItem (.ref t) (.ref sl)) Q E s := by
  have htake : sizeOk (.seq items.toList.reverse.toArray) := by
    show items.toList.reverse.toArray.size ≤ sizeLine
    rw [List.size_toArray, List.length_reverse, Array.length_toList]
    exact hsz
  obtain ⟨os, hos, hcs, hds⟩ := id hs
  have hTs : s.TypeIs (.ref sl) "slice" := ⟨os, hos, hcs⟩
  unfold getItem
  try with_reducible refine wpAny_holding ?_
  first | refine wpAny_bind (wpAny_pure ?_) | skip
  refine wpAny_bind (wpAny_sequenceKey ht.typeIs (by decide) ?_)
  refine wpAny_bind (wpAny_callSpecial?_slot (name := Str.ofString "__getitem__") ht.typeIs PyProof.Rows.slot_tuple_getitem
    (wpAny_call_entry PyProof.Rows.slot_tuple_getitem ht.typeIs entry_tuple_getitem ?_ (args_tuple_getitem _ _)))
  show wpAny _ _ (Builtin.Tuple.tupleItemsOf (.ref t) >>= _) _ _ s
  refine wpAny_bind (tupleItemsOf_ ht ?_)
  refine wpAny_bind (wpAny_typeOf hTs ?_)
  rw [if_pos (by decide)]
  refine wpAny_bind ?_
  unfold Builtin.Slice.sliceApplied Builtin.Slice.sliceFields
  refine wpAny_bind (wpAny_bind (wpAny_field hos hds (x := vl) rfl (wpAny_bind (wpAny_field hos hds (x := vu) rfl (wpAny_bind (wpAny_field hos hds (x := vs) rfl (wpAny_pure ?_)))))))
  refine wpAny_bind (slicePart_ ps ?_)
  show wpAny _ _ (if ((-1 : Int) == 0) = true then _ else _) _ _ s
  rw [if_neg (by decide)]
  refine wpAny_bind (slicePart_ pl (wpAny_bind (slicePart_ pu (wpAny_bind (wpAny_pure ?_)))))
  show wpAny _ _ (match Builtin.Slice.sliceAdjust none none (-1) (items.size : Int) with | (lo, hi) => pure (lo, (-1 : Int), Builtin.Slice.slicePlaces lo hi (-1))) _ _ s
  rw [adjust_rev]
  show wpAny _ _ (pure (((items.size : Nat) : Int) - 1, (-1 : Int), Builtin.Slice.slicePlaces (((items.size : Nat) : Int) - 1) (-1) (-1))) _ _ s
  rw [places_rev]
  refine wpAny_pure ?_
  show wpAny _ _ (if ((((items.size : Nat) : Int) - 1) == 0 && (-1 : Int) == 1 && items.size == items.size) = true then _ else _) _ _ s
  rw [if_neg (by rw [show ((-1 : Int) == 1) = false from rfl, Bool.and_false, Bool.false_and]; exact Bool.false_ne_true), pick_rev]
  first
    | exact wpAny_bind (m := Builtin.Tuple.tupleExact _) (wpAny_newObj_type (wpAny_pure ⟨_, rfl, wpAny_pure h⟩) htake)
    | exact wpAny_bind (m := Builtin.Tuple.tupleExact _) (wpAny_newObj_type (wpAny_bind (wpAny_pure (wpAny_pure ⟨_, rfl, wpAny_pure h⟩))) htake)
    | exact wpAny_bind (wpAny_bind (m := Builtin.Tuple.tupleExact _) (wpAny_newObj_type (wpAny_pure (wpAny_pure ⟨_, rfl, wpAny_pure h⟩)) htake))
    | exact wpAny_bind (wpAny_bind (m := Builtin.Tuple.tupleExact _) (wpAny_newObj_type (wpAny_pure ⟨_, rfl, wpAny_pure h⟩) htake))
end
def gRevT (S : Sto) (d : D) : Option D := match vw S d with
  | .tup xs => some (.tup xs.reverse)
  | _ => none
section
variable {X : Cx} {e b : Expr} {le lb : LE} {k : Nat} {p1 p2 p3 pos : Pos}
end
end MP

/-! list(a text): its signs -/
namespace MP
open PySem PySem.Spec PyProof.Rows L2
section
variable {prog : Program} {w : World} {A : Around} {E : Value → Shared → Prop} {s : Shared}
theorem hint_text {x : Str} {t : Tok} {Q : Bool → Shared → Prop} (h : Q false s) : wpAny (model prog w) A (Builtin.List.listLengthHint (.str x t)) Q E s := by
  unfold Builtin.List.listLengthHint
  refine wpAny_bind (wpAny_specialOf (typeIs_str s x t) F.slot_str_len.lookup ?_)
  generalize hid : ("str.__len__" : String) = id0
  wp_delta
  rw [show splitId id0 = some ("str", "__len__") from by subst hid; decide +kernel]
  subst hid
  refine wpAny_bind (wpAny_isInstance (T := "str") (b := true) (typeIs_str s x t) (by rw [isSubtype_type]; kernel_rfl) ?_)
  refine wpAny_ite_split (fun hab => absurd hab (by decide)) (fun _ => ?_)
  refine wpAny_ite_split (fun _ => ?_) (fun hab => absurd (by decide +kernel) hab)
  refine wpAny_bind (wpAny_typeOf (typeIs_str s x t) ?_)
  exact wpAny_pure h
theorem call_list_text {x : Str} {t : Tok} {Q : Value → Shared → Prop} (hh : A.handled = none) (hlen : x.cps.size ≤ sizeLine)
    (hQ : ∀ h' tk acc' c', (∀ b o, s.heap.get? b = some o → h'.get? b = some o) →
      h'.get? s.heap.objs.size = some { cls := .type "list", dict := none, data := .seq acc' c', slots := #[] } → ItemsOf (SignAt x) acc' x.cps.size → Q (.ref s.heap.objs.size) { s with heap := h', toks := tk }) :
    wpAny (model prog w) A (call (.type "list") [.str x t]) Q E s := by
  refine callType_codes (Q₁ := fun obj s₁ => obj = .ref s.heap.objs.size ∧ s₁ = { s with heap := s.heap.push { cls := .type "list", data := .seq #[] } }) F.called_list (F.typeCall_list_1 _) F.entry_list_init
    (code_list_new _ ⟨rfl, rfl⟩) fun obj s₁ h₁ => ?_
  obtain ⟨rfl, rfl⟩ := h₁
  have hS : (s.heap.push { cls := .type "list", data := .seq #[] }).get? s.heap.objs.size = some { cls := .type "list", data := .seq #[] } := Heap.get?_push_size _ rfl
  refine ⟨⟨_, hS, rfl⟩, F.args_list_init_2 _ _, ?_⟩
  show wpAny _ _ (do let old ← Builtin.List.listItems (.ref s.heap.objs.size); Builtin.List.listUpdate (.ref s.heap.objs.size) (fun _ => #[]); letGo old.toList.reverse; Builtin.List.listExtendWith (.ref s.heap.objs.size) (.str x t) .none) _ _ _
  refine wpAny_bind ?_
  unfold Builtin.List.listItems
  refine wpAny_bind (wpAny_seqItems hS rfl (wpAny_pure ?_))
  show wpAny _ _ (updateSeq s.heap.objs.size (fun _ => #[]) >>= fun _ => letGo (#[] : Array Value).toList.reverse >>= fun _ => Builtin.List.listExtendWith (.ref s.heap.objs.size) (.str x t) .none) _ _ _
  refine wpAny_bind (wpAny_updateSeq hS rfl ?_)
  have hS2 := Heap.get?_update_self (Obj.mapSeq (fun _ => (#[] : Array Value))) hS rfl
  have oth : ∀ b o, s.heap.get? b = some o → ((s.heap.push { cls := .type "list", data := .seq #[] }).update s.heap.objs.size (Obj.mapSeq (fun _ => (#[] : Array Value)))).get? b = some o :=
    fun b o e => (Heap.get?_update_other _ _ (Ne.symm (Nat.ne_of_lt (Heap.lt_size e)))).trans (Heap.get?_push_of_some _ e)
  refine wpAny_bind (wpAny_letGo ?_)
  have hsz : ((s.heap.push { cls := .type "list", data := .seq #[] }).update s.heap.objs.size (Obj.mapSeq (fun _ => (#[] : Array Value)))).objs.size = s.heap.objs.size + 1 := by
    rw [Heap.size_update, Heap.size_push]
  generalize (s.heap.push { cls := .type "list", data := .seq #[] }).update s.heap.objs.size (Obj.mapSeq (fun _ => (#[] : Array Value))) = h2 at hS2 oth hsz ⊢
  unfold Builtin.List.listExtendWith
  refine wpAny_bind (wpAny_typeOf (T := "str") (typeIs_str _ x t) ?_)
  have q1 : Builtin.List.listSameRef (.ref s.heap.objs.size) (.str x t) = false := rfl
  have q2 : (Value.type "str" == Value.type "list") = false := by decide
  have q3 : (Value.type "str" == Value.type "tuple") = false := by decide
  simp only [q1, q2, q3, Bool.or_false, Bool.false_eq_true, if_false]
  refine wpAny_bind (wpAny_pyIter_str fun o St W hst => ?_)
  refine wpAny_bind (wpAny_holding (hint_text ?_))
  simp only [Bool.false_eq_true, if_false]
  have hI : s.heap.objs.size ≠ h2.objs.size := by omega
  have hSf : s.heap.objs.size ∉ [h2.objs.size] := fun z => hI (List.mem_singleton.mp z)
  have hS3 := Heap.get?_push_of_some o hS2
  refine wpAny_pure ⟨plainId_quiet F.plain_extend_loop _, codeAny_extend_loopS ((W A.in1.in1 (by simp [hh])).toS) hlen _ hSf _ _ 0 _ _ _ rfl (Nat.zero_le _) hst hS3 (ItemsOf.nil _) fun s' acc' c' hm hS' hacc => ?_⟩
  rw [Moved.eq_with hm]
  refine ⟨rfl, hQ s'.heap s'.toks acc' c' (fun b o' e => hm.heap b o' (fun z => ?_) (Heap.get?_push_of_some _ (oth b o' e))) hS' hacc⟩
  have hlt := Heap.lt_size e
  rcases List.mem_cons.mp z with z | z
  · exact absurd hlt (by rw [z]; exact Nat.lt_irrefl _)
  · have z2 := List.mem_singleton.mp z
    exact absurd hlt (by rw [z2, hsz]; exact Nat.not_lt_of_le (Nat.le_succ _))
/-- the signs of a text, one by one -/
def sgsD (x : Str) : List D := x.cps.toList.map fun c => D.str ⟨#[c]⟩
theorem vals_signs {x : Str} {acc : Array Value} (h : ItemsOf (SignAt x) acc x.cps.size) : Vals (x.cps.toList.map fun c => V.str ⟨#[c]⟩) acc.toList := by
  have hl : acc.toList.length = x.cps.toList.length := by rw [Array.length_toList, Array.length_toList]; exact h.1
  have hv := vals_of_get acc.toList (fun j => V.str ⟨#[x.cps.toList.getD j 0]⟩) fun j u hj => by
    obtain ⟨c, t, hc, e⟩ := h.2 j u (by rw [← Array.getElem?_toList]; exact hj)
    rw [e]
    have e2 : x.cps.toList.getD j 0 = c := by
      rw [← Array.getElem?_toList] at hc
      rw [List.getD, hc]; rfl
    rw [e2]
    exact ⟨t, rfl⟩
  have e : ((List.range acc.toList.length).map fun j => V.str ⟨#[x.cps.toList.getD j 0]⟩) = x.cps.toList.map fun c => V.str ⟨#[c]⟩ := by
    refine List.ext_getElem (by simp [hl]) fun i h1 h2 => ?_
    have hi : i < x.cps.toList.length := by simpa using h2
    have e3 : x.cps.toList.getD i 0 = x.cps.toList[i] := by rw [List.getD, List.getElem?_eq_getElem hi]; rfl
    rw [List.getElem_map, List.getElem_map, List.getElem_range, e3]
  rw [e] at hv
  exact hv
theorem vrs_signs {K : PySem.W.Frag} {m : List Addr} {H : Hp} : ∀ l : List Nat, VRs K m H (l.map fun c => V.str ⟨#[c]⟩) (l.map fun c => D.str ⟨#[c]⟩)
  | [] => .nil
  | c :: l => .cons (.str _) (vrs_signs l)
end
/-- list(a text), put into the store -/
def lListS (t : LA) : LE := fun ρ S => (t ρ S).bind fun ds S1 => match ds with
  | [.str x] => if x.length ≤ 1000 then .ok (.ref S1.length) (S1 ++ [.lst (sgsD x)]) else .bad
  | _ => .bad
theorem pel_listS {X : Cx} {x : Str} {e : Expr} {es : List Expr} {t : LA} {p pos : Pos} (hc : X.calm = true) (hg : Gl X x) (hm : X.mg x = none) (hv : bootBuiltins x = some (.type "list")) (ha : PAL X (e :: es) t) (hn : x ≠ "__name__" := by decide) (hdb : (x == ("__debug__" : Str)) = false := by decide)
    (he : starEach (e :: es) X.env = (false, eval e X.env) :: starEach es X.env := by rfl) (hpl : (backTo pos (starEach es X.env)).any (·.1) = false := by rfl) : PEL X (.Call (.Name x p) (e :: es) [] pos) (lListS t) := by
  refine ⟨fun pins s σ H m ρ S I x0 r hp => ?_⟩
  refine wpAny_Call_Name_kw (ld_blt I hg hm hv ?_ hn hdb)
  refine PyProof.Rows.callWith_type1 (run_seqA ha I x0 r hp fun ds S1 q1 vs us s1 H1 m1 I1 rv e1 x1 w1 r1 hp1 => ?_) he hpl
  cases w1 with
  | nil => exact absurd rfl hp1.1
  | cons w w2 =>
    cases w2 with
    | cons _ _ => cases w <;> exact absurd rfl hp1.1
    | nil =>
      cases w with
      | str z =>
        have hz := hope_if hp1
        have e0 : lListS t ρ S = .ok (.ref S1.length) (S1 ++ [.lst (sgsD z)]) := by
          unfold lListS
          rw [q1, bind_ok]
          exact if_pos hz
        rw [e0]
        obtain ⟨u, rfl, ru⟩ := rv.one
        obtain ⟨tk, rfl⟩ := ru
        have hzs : z.cps.size ≤ 1000 := hz
        refine call_list_text (I1.ok.hd hc) (by rw [sizeLine_eq]; omega) fun h' tk' acc c k hg' hI => ?_
        have hv' := vals_signs hI
        have hf : H1 s1.heap.objs.size = none := I1.hok.fresh (Nat.le_refl _)
        have J := I1.laid (t' := tk') (o := .lst (z.cps.toList.map fun c => V.str ⟨#[c]⟩)) k (Nat.le_refl _) ⟨by rw [List.length_map, Array.length_toList, sizeLine_eq]; omega, acc.toList, c, hv', hg'⟩
        obtain ⟨m', z1, z2, z3⟩ := qv_newL x1 hf (vrs_signs (K := X.K) (m := m1) (H := H1) z.cps.toList)
        exact (vpr_of ⟨.ref _, _, m', J, rfl, z1, z2, z3⟩).left e1
      | _ => exact absurd rfl hp1.1
end MP

/-! i not in range(a, b) -/
namespace MP
open PySem PySem.Spec PyProof.Rows L2
section
variable {X : Cx}
def lNotRng (le : LE) (t : LA) : LE := fun ρ S => (le ρ S).bind fun x S1 => (t ρ S1).bind fun ds S2 => match x, ds with
  | .int i, [.int a, .int b] => .ok (.bl (!decide (a ≤ i ∧ i < b))) S2
  | _, _ => .bad
end
end MP

/-! {text: text}, its repr -/
namespace MP
open PySem PySem.Spec PyProof.Rows L2
section
variable {X : Cx}
def gReprK1 : GC := fun _ ds => match ds with
  | [.dct false [(.str k, .str v)]] => if (PyData.dict [(.str k, .str v)]).shown.length ≤ sizeLine then some (.str (PyData.dict [(.str k, .str v)]).shown) else none
  | _ => none
end
end MP

/-! isinstance of any datum: text, tuple -/
namespace MP
open PySem PySem.Spec PyProof.Rows L2
def tabStrA : Tab
  | .str => some true
  | .obj _ => none
  | _ => some false
theorem isi_strA {K : PySem.W.Frag} : IsiOk K (.type "str") tabStrA := ⟨fun t b h => by
  cases t with
  | obj C => cases h
  | _ => first
    | (cases h; exact ⟨kit_ty (by decide +kernel), fun C z => nomatch z⟩)
    | skip⟩
def tabTupA : Tab
  | .tup => some true
  | .obj _ => none
  | _ => some false
theorem isi_tupleA {K : PySem.W.Frag} : IsiOk K (.type "tuple") tabTupA := ⟨fun t b h => by
  cases t with
  | obj C => cases h
  | _ => first
    | (cases h; exact ⟨kit_ty (by decide +kernel), fun C z => nomatch z⟩)
    | skip⟩
end MP

/-! sets of tuples of numbers and texts: the search, an insertion (HandS.TupSets has them for tuples of ints) -/
namespace MP
open PySem PySem.Spec PyProof.Rows L2
/-- the hash of such a tuple -/
abbrev hT (P : Program) (w : World) (k : List Key) : Int := tupleKeyHash (mixKind P w) k
abbrev TuK (P : Program) (w : World) (h : Heap) (k : List Key) (a : Addr) : Prop := IsTupleKey (mixKind P w) h k a
/-- the probe behind c steps -/
abbrev stp (t : SetTable) (h : Int) (c : Nat) : SetTable.Probe := nth t.mask (t.probeStart h) c
theorem stp_dummy (t : SetTable) (h : Int) (c : Nat) : (stp t h c).dummy = none := by
  have key : ∀ (n : Nat) (p : SetTable.Probe), p.dummy = none → (nth t.mask p n).dummy = none := fun n => by
    induction n with
    | zero => exact fun p q => q
    | succ n ih =>
      refine fun p q => ih (adv t.mask p) ?_
      unfold adv
      split
      · exact q
      · exact q
  exact key c _ rfl
theorem stp_add (t : SetTable) (h : Int) (c q : Nat) : nth t.mask (stp t h c) q = stp t h (c + q) := (nth_add t.mask c (t.probeStart h) q).symm
def entT (P : Program) (w : World) (p : Addr × List Key) : Int × Value := (hT P w p.2, .ref p.1)
/-- at a: a set of the tuples L, with a table that can be walked -/
structure StT (P : Program) (w : World) (h : Heap) (a : Addr) (L : List (Addr × List Key)) (es : Array (Int × Value)) (ep : Nat) (t : SetTable) : Prop where
  obj : ∃ o, h.get? a = some o ∧ o.ExactSet ∧ o.data = .set es ep t
  ent : es.toList = L.map (entT P w)
  tab : TabOk t (L.map fun p => hT P w p.2)
  once : (L.map (·.2)).Nodup
  keys : ∀ p ∈ L, TuK P w h p.2 p.1
  led : w.params.followText "set-order" = true ∨ t.led = true
  room : L.length * 5 < t.mask * 3
  few : L.length < 64
section
variable {P : Program} {w : World} {A : Around} {E : Value → Shared → Prop} {s : Shared} {a : Addr} {L : List (Addr × List Key)} {es : Array (Int × Value)} {ep : Nat} {t : SetTable}
theorem item_scan {k : List Key} {vs : List Value} (h : ItemsAre (mixKind P w) k vs) : ∀ v ∈ vs, v.scannable = true := by
  induction h with
  | nil => exact fun v hv => nomatch hv
  | @cons k0 v' ks vs h1 _ ih =>
    intro v hv
    rcases List.mem_cons.mp hv with rfl | hv
    · rcases keyIs_shape h1 with ⟨i, t, _, rfl⟩ | ⟨x, t, _, rfl⟩ <;> rfl
    · exact ih v hv
theorem class_scan {v : Value} (h : v.scannable = true) (n : Nat) : ofAClassStatement n v = pure false := by
  cases v with
  | ref _ => cases h
  | _ => cases n <;> rfl
theorem class_tuK {k : List Key} {b : Addr} {Q : Bool → Shared → Prop} (hk : TuK P w s.heap k b) (q : Q false s) : wpAny (model P w) A (ofAClassStatement 8 (.ref b)) Q E s := by
  have ty := hk.typeIs
  obtain ⟨o, its, n, ho, _, hd, hi⟩ := hk
  unfold ofAClassStatement
  refine wpAny_bind (wpAny_typeOf ty ?_)
  dsimp only
  simp only [show (("tuple" : String) == "tuple") = true by decide, if_true, Bool.not_true, Bool.false_eq_true, if_false]
  try refine wpAny_bind (wpAny_pure ?_)
  try simp only [Bool.not_true, Bool.false_eq_true, if_false]
  show wpAny _ _ (seqItems? (.ref b) >>= _) _ _ s
  refine wpAny_bind (wpAny_seqItems ho hd ?_)
  dsimp only
  refine wpAny_bind ?_
  show wpAny _ _ (forIn its _ _) _ _ s
  rw [← Array.forIn_toList]
  refine wpAny_forIn_list _ (fun rest r s1 => (∀ v ∈ rest, v.scannable = true) ∧ r.1 = none ∧ s1 = s) _ ?_ ?_ _ _ ⟨item_scan hi, rfl, rfl⟩
  · rintro v rest r s1 ⟨hall, hr, rfl⟩
    rw [class_scan (hall v List.mem_cons_self)]
    refine wpAny_bind (wpAny_pure ?_)
    simp only [Bool.false_eq_true, if_false]
    exact wpAny_pure ⟨fun u hu => hall u (List.mem_cons_of_mem _ hu), rfl, rfl⟩
  · rintro ⟨r1, r2⟩ s1 ⟨_, hr, rfl⟩
    simp only at hr
    subst hr
    exact wpAny_pure q
/-- a search shows nothing of the table -/
theorem unseen {k : List Key} {b : Addr} {Q : Bool → Shared → Prop} (hk : TuK P w s.heap k b) {ys : List Value} (hy : ∀ y ∈ ys, ∃ j c, TuK P w s.heap j c ∧ y = .ref c) (q : Q false s) :
    wpAny (model P w) A (searchCouldBeSeen (.ref b) ys) Q E s := by
  unfold searchCouldBeSeen
  refine wpAny_bind ?_
  refine wpAny_forIn_list _ (fun rest r s1 => (∀ y ∈ rest, ∃ j c, TuK P w s1.heap j c ∧ y = Value.ref c) ∧ r.1 = none ∧ s1 = s) _ ?_ ?_ _ _ ⟨hy, rfl, rfl⟩
  · rintro v rest r s1 ⟨hall, hr, rfl⟩
    obtain ⟨j, c, hc, rfl⟩ := hall v List.mem_cons_self
    have nx := fun u hu => hall u (List.mem_cons_of_mem _ hu)
    dsimp only
    by_cases hv : (b == c || (carriedByValue (.ref b) && carriedByValue (.ref c))) = true
    · exact wp_if_pos hv (wpAny_pure ⟨nx, rfl, rfl⟩)
    · refine wp_if_neg hv ?_
      refine wpAny_bind (wpAny_eqIsQuiet_tuple hk ?_)
      simp only [Bool.not_true, Bool.false_eq_true, if_false]
      refine wpAny_bind (wpAny_eqIsQuiet_tuple hc ?_)
      simp only [Bool.not_true, Bool.false_eq_true, if_false]
      refine wpAny_bind (class_tuK hk ?_)
      simp only [Bool.false_eq_true, if_false]
      refine wpAny_bind (class_tuK hc ?_)
      simp only [Bool.false_eq_true, if_false]
      exact wpAny_pure ⟨nx, rfl, rfl⟩
  · rintro ⟨r1, r2⟩ s1 ⟨_, hr, rfl⟩
    simp only at hr
    subst hr
    exact wpAny_pure q
theorem StT.size (R : StT P w s.heap a L es ep t) : es.size = L.length := by
  have q := congrArg List.length R.ent
  simpa using q
theorem StT.psize (R : StT P w s.heap a L es ep t) : t.place.toList.length = L.length := by
  have q := R.tab.sz
  rw [List.length_map] at q
  rw [Array.length_toList, q]
theorem StT.fits (R : StT P w s.heap a L es ep t) : t.fits es.size = true := by
  have q1 := R.psize
  have q2 := R.size
  have q3 := R.room
  rw [Array.length_toList] at q1
  unfold SetTable.fits SetTable.fill
  rw [R.tab.dm, Bool.and_eq_true, beq_iff_eq, decide_eq_true_eq]
  show t.place.size = es.size ∧ t.place.size + 0 ≤ t.mask
  omega
theorem StT.at_ (R : StT P w s.heap a L es ep t) {i : Nat} {p : Addr × List Key} (h : L[i]? = some p) : es[i]? = some (entT P w p) := by
  rw [← Array.getElem?_toList, R.ent, List.getElem?_map, h]
  rfl
theorem StT.sound (R : StT P w s.heap a L es ep t) : ¬ t.gaveWay = true := by
  unfold SetTable.gaveWay
  rw [mask_odd R.tab.mok]
  decide
/-- the search for k from the c-th step on; K: the first empty place on the way -/
theorem StT.search (R : StT P w s.heap a L es ep t) {x : Addr} {k : List Key} (hx : TuK P w s.heap k x) (hu : A.units < cLine) {K : Nat} (big : K < 10 * SetTable.turns t.mask) (free : way t.mask (hT P w k) K ∉ t.place.toList)
    (taken : ∀ c, c < K → way t.mask (hT P w k) c ∈ t.place.toList) {Q : SetFound → Shared → Prop} (yes : k ∈ L.map (·.2) → Q (.there none) s) (no : k ∉ L.map (·.2) → Q (.free (way t.mask (hT P w k) K) false) s) :
    ∀ (f c : Nat) (stand : Option SetTable.Probe), c ≤ K → K - c < f → stand.getD (t.probeStart (hT P w k)) = stp t (hT P w k) c →
      (∀ (i : Nat) (p : Addr × List Key), L[i]? = some p → p.2 = k → ∃ d, c ≤ d ∧ d < K ∧ t.place.toList[i]? = some (way t.mask (hT P w k) d)) → wpAny (model P w) A (setSearchFrom a (.ref x) (hT P w k) true f stand) Q E s := by
  intro f
  induction f with
  | zero => exact fun c stand _ z => absurd z (Nat.not_lt_zero _)
  | succ f ih =>
    intro c stand hc hf hst left
    obtain ⟨o, ho, hex, hd⟩ := R.obj
    rw [setSearchFrom_succ]
    refine wpAny_bind (wpAny_setState_of ho hd R.fits ?_)
    dsimp only
    refine wp_if_neg R.sound ?_
    try refine wpAny_bind (wpAny_pure ?_)
    have jj : ∀ q, (nth t.mask (stp t (hT P w k) c) q).j = way t.mask (hT P w k) (c + q) := fun q => congrArg SetTable.Probe.j (stp_add t (hT P w k) c q)
    have eK : c + (K - c) = K := by omega
    have hh : ∀ (i : Nat) p, L[i]? = some p → (es[i]?.map (·.1)).getD 0 = hT P w p.2 := fun i p hp => by rw [R.at_ hp]; rfl
    rw [hst]
    rcases go_spec t R.tab.ris R.tab.dm (fun i => (es[i]?.map (·.1)).getD 0) (hT P w k) (10 * SetTable.turns t.mask) (K - c) (stp t (hT P w k) c) (stp_dummy _ _ _) (by omega) (fun q hq => by rw [jj]; exact taken _ (by omega)) (by rw [jj, eK]; exact free) with ⟨q, i, hq, hi, he, before, pr⟩ | ⟨before, pr⟩
    · rw [jj] at hi pr
      rw [stp_add] at pr
      rw [show t.probe (fun i => (es[i]?.map (·.1)).getD 0) (hT P w k) (stp t (hT P w k) c) = some (.candidate (way t.mask (hT P w k) (c + q)) i (stp t (hT P w k) (c + (q + 1)))) from pr]
      dsimp only
      have il : i < L.length := by
        have z := (List.getElem?_eq_some_iff.mp hi).1
        have y := R.psize
        omega
      obtain ⟨p, hp⟩ : ∃ p, L[i]? = some p := ⟨L[i], List.getElem?_eq_getElem il⟩
      have pm : p ∈ L := List.mem_of_getElem? hp
      have live : t.slot (way t.mask (hT P w k) (c + q)) = .live i := slot_live R.tab.ris hi
      have rest : wpAny (model P w) A (searchRest a (.ref x) (hT P w k) true f es t (way t.mask (hT P w k) (c + q)) i (stp t (hT P w k) (c + (q + 1)))) Q E s := by
        unfold searchRest
        rw [R.at_ hp]
        dsimp only [entT]
        refine wpAny_bind (wpAny_holding (wpAny_eqBool_tuple hu (R.keys p pm) hx ?_))
        refine wpAny_bind (wpAny_setState_of ho hd R.fits ?_)
        dsimp only
        by_cases same : p.2 = k
        · exact wp_if_pos (by simp [same]) (wpAny_pure (yes (List.mem_map.mpr ⟨p, pm, same⟩)))
        · refine wp_if_neg (by simp [same]) ?_
          try refine wpAny_bind (wpAny_pure ?_)
          rw [sameMem]
          dsimp only
          simp only [if_true, live, R.at_ hp, entT]
          refine wpAny_bind (wpAny_isSame_ref_self (wpAny_bind (wpAny_pure ?_)))
          simp only [if_true]
          refine wp_if_neg (by simp [same]) ?_
          refine ih (c + (q + 1)) _ (by omega) (by omega) rfl fun i0 p0 h0 e0 => ?_
          obtain ⟨d, d1, d2, d3⟩ := left i0 p0 h0 e0
          refine ⟨d, ?_, d2, d3⟩
          by_cases z1 : d < c + q
          · refine absurd ((hh i0 p0 h0).trans (congrArg (hT P w) e0)) (before (d - c) i0 (by omega) ?_)
            rw [jj, show c + (d - c) = d by omega]
            exact d3
          · by_cases z2 : d = c + q
            · exfalso
              rw [z2] at d3
              have y := slot_live R.tab.ris d3
              rw [live] at y
              injection y with y
              rw [← y, hp] at h0
              cases h0
              exact same e0
            · omega
      by_cases hl : t.led = true
      · refine wp_if_neg (by simp [hl]) ?_
        try refine wpAny_bind (wpAny_pure ?_)
        exact rest
      · refine wp_if_pos (by simp [hl]) (wpAny_bind (unseen hx (fun y hy => ?_) ?_))
        · obtain ⟨e, he1, rfl⟩ := List.mem_map.mp hy
          have he2 : e ∈ es.toList := by
            have : e ∈ es ∧ e.1 = hT P w k := by simpa using he1
            simpa using this.1
          rw [R.ent] at he2
          obtain ⟨p2, hp2, rfl⟩ := List.mem_map.mp he2
          exact ⟨p2.2, p2.1, R.keys p2 hp2, rfl⟩
        · refine wp_if_neg (by decide) ?_
          try refine wpAny_bind (wpAny_pure ?_)
          exact rest
    · rw [jj, eK] at pr
      rw [show t.probe (fun i => (es[i]?.map (·.1)).getD 0) (hT P w k) (stp t (hT P w k) c) = some (.empty (way t.mask (hT P w k) K) none) from pr]
      dsimp only
      refine wpAny_pure (no fun hm => ?_)
      obtain ⟨p0, m0, e0⟩ := List.mem_map.mp hm
      obtain ⟨i0, h0⟩ := List.mem_iff_getElem?.mp m0
      obtain ⟨d, d1, d2, d3⟩ := left i0 p0 h0 e0
      refine before (d - c) i0 (by omega) ?_ ((hh i0 p0 h0).trans (congrArg (hT P w) e0))
      rw [jj, show c + (d - c) = d by omega]
      exact d3
/-- the search that an insertion makes -/
theorem StT.find (R : StT P w s.heap a L es ep t) {x : Addr} {k : List Key} (hx : TuK P w s.heap k x) (hu : A.units < cLine) {Q : SetFound → Shared → Prop} (yes : k ∈ L.map (·.2) → Q (.there none) s)
    (no : ∀ K, k ∉ L.map (·.2) → way t.mask (hT P w k) K ∉ t.place.toList → (∀ c, c < K → way t.mask (hT P w k) c ∈ t.place.toList) → Q (.free (way t.mask (hT P w k) K) false) s) :
    wpAny (model P w) A (setSearch a (.ref x) (hT P w k) true) Q E s := by
  have q := R.room
  obtain ⟨K, k1, k2, k3⟩ := R.tab.first (by rw [List.length_map]; omega) (hT P w k)
  have small : 10 * SetTable.turns t.mask ≤ 1420 := by
    unfold SetTable.turns
    rcases R.tab.mok with e | e | e <;> omega
  unfold setSearch
  refine R.search hx hu k1 k2 k3 yes (fun z => no K z k2 k3) 100000 0 none (Nat.zero_le _) (by omega) rfl fun i p hp e => ?_
  have hi : (L.map fun p => hT P w p.2)[i]? = some (hT P w k) := by rw [List.getElem?_map, hp, ← e]; rfl
  have il : i < t.place.toList.length := by
    rw [R.psize]
    exact (List.getElem?_eq_some_iff.mp hp).1
  obtain ⟨d, d1, d2⟩ := R.tab.before k2 hi (List.getElem?_eq_getElem il)
  exact ⟨d, Nat.zero_le _, d1, by rw [List.getElem?_eq_getElem il, d2]⟩
end
end MP

/-! sets of tuples of numbers and texts: an insertion -/
namespace MP
open PySem PySem.Spec PyProof.Rows L2
section
variable {P : Program} {w : World} {A : Around} {E : Value → Shared → Prop} {s : Shared} {a : Addr} {L : List (Addr × List Key)} {es : Array (Int × Value)} {ep : Nat} {t : SetTable}
theorem TuK.but {h h' : Heap} {k : List Key} {b : Addr} {o : Obj} (q : TuK P w h k b) (ho : h.get? a = some o) (hd : o.data = .set es ep t) (sb : Heap.SameBut a h h') : TuK P w h' k b := by
  obtain ⟨o1, its, n, h1, h2, h3, h4⟩ := q
  refine ⟨o1, its, n, (sb.2 b fun z => ?_).trans h1, h2, h3, h4⟩
  rw [z, ho] at h1
  cases h1
  rw [hd] at h3
  cases h3
end
end MP

/-! set(pairs of texts), of a list, of a tuple; sorted and counted -/
namespace MP
open PySem PySem.Spec PyProof.Rows L2
/-- what stands in the set behind the first i pairs -/
structure Met (ks : List (Addr × List Key)) (i : Nat) (L : List (Addr × List Key)) : Prop where
  old : ∀ p ∈ L, p ∈ ks.take i
  new : ∀ p ∈ ks.take i, p.2 ∈ L.map (·.2)
  len : L.length ≤ i
section
variable {P : Program} {w : World} {A : Around} {R : Result → Shared → Prop} {E : Value → Shared → Prop} {s : Shared}
theorem TuK.keep {h h' : Heap} {k : List Key} {b : Addr} (q : TuK P w h k b) (e : ∀ c o, h.get? c = some o → h'.get? c = some o) : TuK P w h' k b := by
  obtain ⟨o, its, n, ho, r⟩ := q
  exact ⟨o, its, n, e b o ho, r⟩
theorem StT.keep {h h' : Heap} {a : Addr} {L : List (Addr × List Key)} {es : Array (Int × Value)} {ep : Nat} {t : SetTable} (q : StT P w h a L es ep t) (ha : ∀ o, h.get? a = some o → h'.get? a = some o) (hk : ∀ p ∈ L, TuK P w h' p.2 p.1) : StT P w h' a L es ep t := by
  obtain ⟨o, ho, r⟩ := q.obj
  exact ⟨⟨o, ha o ho, r⟩, q.ent, q.tab, q.once, hk, q.led, q.room, q.few⟩
end
end MP

namespace MP
open PySem PySem.Spec PyProof.Rows L2
section
variable {P : Program} {w : World} {A : Around} {R : Result → Shared → Prop} {E : Value → Shared → Prop} {s : Shared}
end
end MP

/-! sorted(set(a tuple of pairs of texts)) as an expression -/
namespace MP
open PySem PySem.Spec PyProof.Rows L2
abbrev PS := Str × Str
def pdD (p : PS) : D := .tup [.str p.1, .str p.2]
def psOf : List D → Option (List PS)
  | [] => some []
  | .tup [.str a, .str b] :: r => (psOf r).map fun q => (a, b) :: q
  | _ => none
def kkP (p : PS) : List Key := [.inr p.1, .inr p.2]
def nubP : List PS → List PS
  | [] => []
  | x :: r => if x ∈ r then nubP r else x :: nubP r
/-- p not behind q -/
def leP (p q : PS) : Bool := !ltP q.1 q.2 p.1 p.2
def srtP (ps : List PS) : List PS := (nubP ps).mergeSort leP
theorem lt_tri {a b : Str} (h : a ≠ b) : a.cps.toList < b.cps.toList ∨ b.cps.toList < a.cps.toList := by
  by_cases q : a.cps.toList < b.cps.toList
  · exact .inl q
  · refine .inr ?_
    rcases List.le_total a.cps.toList b.cps.toList with z | z
    · exact absurd (Str.ext' (Array.toList_inj.mp (List.le_antisymm z (List.not_lt.mp q)))) h
    · refine Classical.byContradiction fun y => ?_
      exact h (Str.ext' (Array.toList_inj.mp (List.le_antisymm (List.not_lt.mp y) z)))
/-- q before p, in words -/
theorem ltP_iff {a b c d : Str} : ltP a b c d = true ↔ (a ≠ c ∧ a.cps.toList < c.cps.toList) ∨ (a = c ∧ b ≠ d ∧ b.cps.toList < d.cps.toList) := by
  unfold ltP
  by_cases h1 : a = c
  · rw [if_pos h1]
    by_cases h2 : b = d
    · rw [if_pos h2]
      simp [h1, h2]
    · rw [if_neg h2, decide_eq_true_eq]
      simp [h1, h2]
  · rw [if_neg h1, decide_eq_true_eq]
    simp [h1]
theorem ltP_tri {p q : PS} (h : p ≠ q) : ltP p.1 p.2 q.1 q.2 = true ∨ ltP q.1 q.2 p.1 p.2 = true := by
  by_cases h1 : p.1 = q.1
  · have h2 : p.2 ≠ q.2 := fun z => h (Prod.ext h1 z)
    rcases lt_tri h2 with z | z
    · exact .inl (ltP_iff.mpr (.inr ⟨h1, h2, z⟩))
    · exact .inr (ltP_iff.mpr (.inr ⟨h1.symm, Ne.symm h2, z⟩))
  · rcases lt_tri h1 with z | z
    · exact .inl (ltP_iff.mpr (.inl ⟨h1, z⟩))
    · exact .inr (ltP_iff.mpr (.inl ⟨Ne.symm h1, z⟩))
theorem ltP_asymm {p q : PS} (h : ltP p.1 p.2 q.1 q.2 = true) : ltP q.1 q.2 p.1 p.2 = false := by
  cases z : ltP q.1 q.2 p.1 p.2 with
  | false => rfl
  | true =>
    rcases ltP_iff.mp h with ⟨a1, a2⟩ | ⟨a1, a2, a3⟩
    · rcases ltP_iff.mp z with ⟨b1, b2⟩ | ⟨b1, _⟩
      · exact absurd b2 (List.lt_asymm a2)
      · exact absurd b1.symm a1
    · rcases ltP_iff.mp z with ⟨b1, _⟩ | ⟨b1, b2, b3⟩
      · exact absurd a1.symm b1
      · exact absurd b3 (List.lt_asymm a3)
theorem leP_iff {p q : PS} : leP p q = true ↔ p = q ∨ ltP p.1 p.2 q.1 q.2 = true := by
  unfold leP
  rw [Bool.not_eq_true']
  constructor
  · intro h
    by_cases e : p = q
    · exact .inl e
    · rcases ltP_tri e with z | z
      · exact .inr z
      · rw [h] at z; cases z
  · rintro (rfl | h)
    · cases z : ltP p.1 p.2 p.1 p.2 with
      | false => rfl
      | true =>
        have := ltP_asymm z
        rw [z] at this
        cases this
    · exact ltP_asymm h
def encP (p : PS) : PyData := .tuple [.str p.1, .str p.2]
theorem le_encP : PySem.W.dataLe false encP = leP := by
  funext p q
  show (!PySem.W.dataLt (.tuple [.str q.1, .str q.2]) (.tuple [.str p.1, .str p.2])) = leP p q
  rw [PySem.W.dataLt_pair (by simp [PySem.W.alike]) (by simp [PySem.W.alike]), PySem.W.dataLt_str, PySem.W.dataLt_str]
  unfold leP ltP
  simp only [PyData.eqv, beq_iff_eq]
section
variable {K : PySem.W.Frag} {m : List Addr} {H : Hp}
end
/-- sorted(set(a tuple of pairs of texts)) -/
def gSortSetP : GC := fun _ ds => match ds with
  | [.tup xs] => match psOf xs with
    | some ps => if ps.length < 64 then some (.lst ((srtP ps).map pdD)) else none
    | none => none
  | _ => none
end MP

/-! upper, {text: number}, isinstance of numbers and truths of any datum, is not True -/
namespace MP
open PySem PySem.Spec PyProof.Rows L2
section
variable {X : Cx}
def gNotB : G2 := fun _ x y => match x, y with
  | .bl a, .bl b => some (.bl (!decide (a = b)))
  | _, _ => none
theorem opl_notB : OpL X (compareOp .IsNot) gNotB := .of op_notBl fun H m S x y dx dy d q rx ry e => by
  unfold gNotB at e
  split at e
  · cases e
    cases rx
    cases ry
    exact ⟨_, _, rfl, rfl, qv_same q (.bl _)⟩
  · cases e
def lUpper (lo : LE) : LE := fun ρ S => (lo ρ S).bind fun d S1 => match d with
  | .str z => if z.length ≤ 100000 then .ok (.str (Txt.upper z)) S1 else .bad
  | _ => .bad
end
def tabIntA : Tab
  | .int => some true
  | .bl => some true
  | .obj _ => none
  | _ => some false
theorem isi_intA {K : PySem.W.Frag} : IsiOk K (.type "int") tabIntA := ⟨fun t b h => by
  cases t with
  | obj C => cases h
  | _ => first
    | (cases h; exact ⟨kit_ty (by decide +kernel), fun C z => nomatch z⟩)
    | skip⟩
def tabBlA : Tab
  | .bl => some true
  | .obj _ => none
  | _ => some false
theorem isi_boolA {K : PySem.W.Frag} : IsiOk K (.type "bool") tabBlA := ⟨fun t b h => by
  cases t with
  | obj C => cases h
  | _ => first
    | (cases h; exact ⟨kit_ty (by decide +kernel), fun C z => nomatch z⟩)
    | skip⟩
end MP

/-! tuples of no dict of their own; dict(pairs) of a list, of such a tuple -/
namespace MP
open PySem PySem.Spec PyProof.Rows L2
section
variable {X : Cx}
/-- tuple(a list) -/
def gFTuple : GC := fun S ds => match ds with
  | [d] => match vw S d with
    | .lst xs => some (.ftup xs)
    | _ => none
  | _ => none
theorem cl_ftuple : CallL X (.type "tuple") gFTuple := ⟨fun pins s σ H m S xs ds d us I q r rv e => by
  unfold gFTuple at e
  split at e
  · split at e
    · rename_i ys e1
      cases e
      obtain ⟨v, rfl, w⟩ := r.one
      obtain ⟨a, vs, rfl, h1, r1⟩ := vw_lst q w e1
      rw [Vals.ref1 rv]
      obtain ⟨its, rv', pl, hz⟩ := I.list h1
      refine call_tuple_list pl.isList (fun h' hk => ?_) (by rw [List.size_toArray, ← rv'.length]; exact hz)
      have I1 : Inv X pins σ H { s with heap := h', toks := s.toks } := I.kept hk
      have hn : H h'.objs.size = none := I1.hok.fresh (Nat.le_refl _)
      exact ⟨.ref h'.objs.size, upd H h'.objs.size (.frz { cls := .type "tuple", data := .seq its.toArray } (.tup vs)), m, I1.laid (t' := s.toks) (o := .frz { cls := .type "tuple", data := .seq its.toArray } (.tup vs)) (fun b o e => Heap.get?_push_of_some _ e) (Nat.le_refl _) ⟨Heap.get?_push_size _ rfl, hz, its, rv', IsTup.new h' _⟩, rfl, Ext.fresh hn, q.fresh hn, .ftup rfl upd_same (r1.fresh q hn)⟩
    · cases e
  · cases e⟩
/-- () -/
def lTup0 : LE := fun _ S => .ok (.ftup []) S
end
/-! ### pairs -/
def kv1 : D → Option (D × D)
  | .tup [k, v] => (keyOf k).map fun _ => (k, v)
  | _ => none
def kvsOf : List D → Option (List (D × D))
  | [] => some []
  | x :: r => (kv1 x).bind fun p => (kvsOf r).map fun q => p :: q
def keysK (kvs : List (D × D)) : List Key := kvs.filterMap fun q => keyOf q.1
theorem kv1_inv {x : D} {p : D × D} (h : kv1 x = some p) : x = .tup [p.1, p.2] ∧ ∃ key, keyOf p.1 = some key := by
  unfold kv1 at h
  split at h
  · rename_i k v
    cases q : keyOf k with
    | none => rw [q] at h; cases h
    | some key => rw [q] at h; cases h; exact ⟨rfl, key, q⟩
  · cases h
def kv1T : D → Option (D × D)
  | .tup [.tup xs, v] => (keysOf xs).map fun _ => (.tup xs, v)
  | _ => none
def kvsOfT : List D → Option (List (D × D))
  | [] => some []
  | x :: r => (kv1T x).bind fun p => (kvsOfT r).map fun q => p :: q
def keysT (kvs : List (D × D)) : List (List Key) := kvs.filterMap fun q => kOf true q.1
theorem kv1T_inv {x : D} {p : D × D} (h : kv1T x = some p) : ∃ ks : List Key, x = .tup [.tup (ks.map keyD), p.2] ∧ p.1 = .tup (ks.map keyD) := by
  unfold kv1T at h
  split at h
  · rename_i xs v
    cases q : keysOf xs with
    | none => rw [q] at h; cases h
    | some ks => rw [q] at h; cases h; exact ⟨ks, by rw [← keysOf_inv q], by rw [← keysOf_inv q]⟩
  · cases h
theorem mergeK_nd : ∀ (ks acc : List (Key × V)), (acc.map (·.1) ++ ks.map (·.1)).Nodup → mergeK acc ks = acc ++ ks
  | [], acc, _ => by simp [mergeK]
  | k :: ks, acc, h => by
    have hn : (acc.any fun kv => decide (kv.1 = k.1)) = false := by
      rw [List.any_eq_false]
      intro x hx z
      have e := of_decide_eq_true z
      rw [List.map_cons, List.nodup_append] at h
      exact h.2.2 x.1 (List.mem_map_of_mem hx) k.1 List.mem_cons_self e
    have e : putK acc k.1 k.2 = acc ++ [k] := by
      unfold putK
      rw [hn, if_neg Bool.false_ne_true]
    show mergeK (putK acc k.1 k.2) ks = _
    rw [e, mergeK_nd ks (acc ++ [k]) (by simpa [List.append_assoc] using h)]
    simp
theorem merged_nd {κ : Type} [DecidableEq κ] : ∀ (ks acc : List (κ × Value)), (acc.map (·.1) ++ ks.map (·.1)).Nodup → merged acc ks = acc ++ ks
  | [], acc, _ => by simp [merged]
  | k :: ks, acc, h => by
    have hn : (acc.any fun kv => decide (kv.1 = k.1)) = false := by
      rw [List.any_eq_false]
      intro x hx z
      have e := of_decide_eq_true z
      rw [List.map_cons, List.nodup_append] at h
      exact h.2.2 x.1 (List.mem_map_of_mem hx) k.1 List.mem_cons_self e
    have e : stored acc k.1 k.2 = acc ++ [k] := by
      unfold stored
      rw [hn, if_neg Bool.false_ne_true]
    show merged (stored acc k.1 k.2) ks = _
    rw [e, merged_nd ks (acc ++ [k]) (by simpa [List.append_assoc] using h)]
    simp
theorem storedAll_nd {κ : Type} [DecidableEq κ] : ∀ (ks acc : List (κ × Addr × Value)), (acc.map (·.1) ++ ks.map (·.1)).Nodup → storedAllH acc ks = acc ++ ks
  | [], acc, _ => by simp [storedAllH]
  | k :: ks, acc, h => by
    have hn : atKey acc k.1 = none := by
      cases q : atKey acc k.1 with
      | none => rfl
      | some p =>
        exfalso
        unfold atKey at q
        rw [List.map_cons, List.nodup_append] at h
        have hm : k.1 ∈ acc.map (·.1) := by
          cases z : acc.find? (fun x => x.1 = k.1) with
          | none => rw [z] at q; cases q
          | some y =>
            have e := List.find?_some z
            have e' : y.1 = k.1 := by simpa using e
            rw [← e']
            exact List.mem_map_of_mem (List.mem_of_find?_eq_some z)
        exact h.2.2 k.1 hm k.1 List.mem_cons_self rfl
    show storedAllH (storedH acc k.1 k.2.1 k.2.2) ks = _
    rw [storedH_new hn, storedAll_nd ks (acc ++ [(k.1, k.2.1, k.2.2)]) (by simpa [List.append_assoc] using h)]
    simp
theorem paired_right {α β : Type} {F : α → β → Prop} : ∀ {l₁ : List α} {l₂ : List β}, Paired F l₁ l₂ → ∀ y ∈ l₂, ∃ x, F x y
  | _, _, .nil => fun y hy => nomatch hy
  | _, _, .cons h t => fun y hy => by
    rcases List.mem_cons.mp hy with rfl | hy
    · exact ⟨_, h⟩
    · exact paired_right t y hy
theorem paired_keys {α β γ : Type} {F : α × β → α × γ → Prop} : ∀ {l₁ : List (α × β)} {l₂ : List (α × γ)}, Paired F l₁ l₂ → (∀ x y, F x y → x.1 = y.1) → l₂.map (·.1) = l₁.map (·.1)
  | _, _, .nil, _ => rfl
  | _, _, .cons h t, g => by rw [List.map_cons, List.map_cons, g _ _ h, paired_keys t g]
section
variable {K : PySem.W.Frag} {m : List Addr} {H : Hp}
theorem kvs_paired : ∀ {xs : List D} {vs : List V} {kvs : List (D × D)}, VRs K m H vs xs → kvsOf xs = some kvs → ∃ (ps : List Addr) (ks : List (Key × V)), vs = ps.map V.ref ∧ Paired (fun p (kv : Key × V) => H p = some (.tup [kV kv.1, kv.2])) ps ks ∧ VDk K m H ks kvs ∧ ks.map (·.1) = keysK kvs
  | [], _, _, .nil, h => by simp only [kvsOf] at h; cases h; exact ⟨[], [], rfl, .nil, .nil, rfl⟩
  | x :: xs, v :: vs, kvs, .cons hx r, h => by
    simp only [kvsOf] at h
    cases q : kv1 x with
    | none => rw [q] at h; cases h
    | some p =>
      rw [q] at h
      cases q2 : kvsOf xs with
      | none => rw [q2] at h; cases h
      | some kvs' =>
        rw [q2] at h
        cases h
        obtain ⟨rfl, key, hk⟩ := kv1_inv q
        obtain ⟨ps, ks, e1, e2, e3, e4⟩ := kvs_paired r q2
        cases hx with
        | @tup a vs' _ h' r' =>
          obtain ⟨v1, v2, rfl, w1, w2⟩ := r'.two
          have ev := w1.key hk
          subst ev
          have ek := keyOf_inv hk
          refine ⟨a :: ps, (key, v2) :: ks, by rw [e1]; rfl, .cons h' e2, ?_, ?_⟩
          · obtain ⟨p1, p2⟩ := p
            dsimp only at ek w2 ⊢
            subst ek
            exact .cons w2 e3
          · show key :: ks.map (·.1) = keysK (p :: kvs')
            unfold keysK
            rw [List.filterMap_cons_some (f := fun q : D × D => keyOf q.1) (a := p) hk, e4]
            rfl
theorem kvs_pairedT : ∀ {xs : List D} {vs : List V} {kvs : List (D × D)}, VRs K m H vs xs → kvsOfT xs = some kvs → ∃ (ps : List (Addr × Addr)) (ks : List (List Key × V)), vs = ps.map (fun p => V.ref p.1) ∧ Paired (fun p (kv : List Key × V) => H p.1 = some (.tup [.ref p.2, kv.2]) ∧ H p.2 = some (.tup (kv.1.map kV))) ps ks ∧ VDt K m H ks kvs ∧ ks.map (·.1) = keysT kvs
  | [], _, _, .nil, h => by simp only [kvsOfT] at h; cases h; exact ⟨[], [], rfl, .nil, .nil, rfl⟩
  | x :: xs, v :: vs, kvs, .cons hx r, h => by
    simp only [kvsOfT] at h
    cases q : kv1T x with
    | none => rw [q] at h; cases h
    | some p =>
      rw [q] at h
      cases q2 : kvsOfT xs with
      | none => rw [q2] at h; cases h
      | some kvs' =>
        rw [q2] at h
        cases h
        obtain ⟨key, rfl, hk⟩ := kv1T_inv q
        obtain ⟨ps, ks, e1, e2, e3, e4⟩ := kvs_pairedT r q2
        cases hx with
        | @tup a vs' _ h' r' =>
          obtain ⟨v1, v2, rfl, w1, w2⟩ := r'.two
          cases w1 with
          | @tup b us _ hb rb =>
            have ev := rb.keys
            subst ev
            refine ⟨(a, b) :: ps, (key, v2) :: ks, by rw [e1]; rfl, .cons ⟨h', hb⟩ e2, ?_, ?_⟩
            · obtain ⟨p1, p2⟩ := p
              dsimp only at hk w2 ⊢
              subst hk
              exact .cons w2 e3
            · show key :: ks.map (·.1) = keysT (p :: kvs')
              unfold keysT
              rw [List.filterMap_cons_some (f := fun q : D × D => kOf true q.1) (a := p) (show kOf true p.1 = some key by rw [hk]; exact kf2.mpr rfl), e4]
              rfl
end
section
variable {X : Cx}
theorem pairs2 {pins : List (Addr × Obj)} {σ : L2.St} {H : Hp} {s : Shared} (I : Inv X pins σ H s) : ∀ {ps : List Addr} {ks : List (Key × V)}, Paired (fun p (kv : Key × V) => H p = some (.tup [kV kv.1, kv.2])) ps ks →
    ∃ (prs : List (Key × Value)) (pv : List (Value × Value)), KV ks prs ∧ prs.length = ps.length ∧ pv.length = ps.length ∧ ∀ (j : Nat) (u y : Value), pv[j]? = some (u, y) → ∃ (b : Addr) (k : Key), ps[j]? = some b ∧ prs[j]? = some (k, y) ∧ IsTup s.heap b #[u, y] ∧ keyIs k u = true
  | _, _, .nil => ⟨[], [], .nil, rfl, rfl, fun j u y e => by simp at e⟩
  | _, _, .cons (a := p) (b := kv) h t => by
    obtain ⟨prs, pv, r, hl, hl2, hp⟩ := pairs2 I t
    obtain ⟨its, rv, ht, _⟩ := I.tuple (SqT.of h)
    obtain ⟨u, y, ei, ru, ry⟩ := vals2 rv
    subst ei
    refine ⟨(kv.1, y) :: prs, (u, y) :: pv, .cons ⟨rfl, ry⟩ r, by rw [List.length_cons, List.length_cons, hl], by rw [List.length_cons, List.length_cons, hl2], fun j u' y' e => ?_⟩
    cases j with
    | zero =>
      have e' : (u, y) = (u', y') := Option.some.inj e
      cases e'
      exact ⟨p, kv.1, rfl, rfl, ht, kV_is (P := X.prog) (w := X.w) ru⟩
    | succ j =>
      obtain ⟨b, k, e1, e2, e3⟩ := hp j u' y' (by simpa using e)
      exact ⟨b, k, by simpa using e1, by simpa using e2, e3⟩
/-- dict(pairs), the keys numbers and texts, each once -/
def gDictK : GC := fun S ds => match ds with
  | [.lst xs] => (kvsOf xs).bind fun kvs => if (keysK kvs).Nodup ∧ kvs.length ≤ 100000 then some (.dct false kvs) else none
  | [.ftup xs] => (kvsOf xs).bind fun kvs => if (keysK kvs).Nodup ∧ kvs.length ≤ 100000 then some (.dct false kvs) else none
  | _ => none
theorem vdk_len {K : PySem.W.Frag} {m : List Addr} {H : Hp} : ∀ {ks : List (Key × V)} {kvs : List (D × D)}, VDk K m H ks kvs → ks.length = kvs.length
  | _, _, .nil => rfl
  | _, _, .cons _ r => by rw [List.length_cons, List.length_cons, vdk_len r]
theorem vdt_len {K : PySem.W.Frag} {m : List Addr} {H : Hp} : ∀ {ks : List (List Key × V)} {kvs : List (D × D)}, VDt K m H ks kvs → ks.length = kvs.length
  | _, _, .nil => rfl
  | _, _, .cons _ r => by rw [List.length_cons, List.length_cons, vdt_len r]
theorem cl_dictK (hc : X.calm = true) : CallL X (.type "dict") gDictK := ⟨fun pins s σ H m S xs ds d us I q r rv e => by
  unfold gDictK at e
  split at e
  · rename_i ys
    cases q1 : kvsOf ys with
    | none => rw [q1] at e; cases e
    | some kvs =>
      rw [q1] at e
      dsimp only [Option.bind] at e
      split at e
      · rename_i hk
        cases e
        obtain ⟨v, rfl, w⟩ := r.one
        obtain ⟨a, vs, rfl, h1, r1⟩ := vw_lst (S := S) q w rfl
        obtain ⟨ps, ks, rfl, hp, hd, hkeys⟩ := kvs_paired r1 q1
        have hm : mergeK [] ks = ks := by
          have := mergeK_nd ks [] (by rw [hkeys]; exact hk.1)
          simpa using this
        refine thn (call_dictP hc pins s σ H [.ref a] us (QV X.K m H S (.dct false kvs)) I rv ⟨a, ps, ks, rfl, h1, L2.Paired.mapP hp (fun _ _ z => SqT.of z), fun p hn => ?_⟩) fun _ _ z => vp_of z
        rw [hm]
        exact qv_new q hn (.dct (q.nin hn) upd_same (VDk.ext (Ext.fresh hn) q.muts hd))
      · cases e
  · rename_i ys
    cases q1 : kvsOf ys with
    | none => rw [q1] at e; cases e
    | some kvs =>
      rw [q1] at e
      dsimp only [Option.bind] at e
      split at e
      · rename_i hk
        cases e
        obtain ⟨v, rfl, w⟩ := r.one
        cases w with
        | @ftup a vs _ o hdn h1 r1 =>
          obtain ⟨ps, ks, rfl, hp, hd, hkeys⟩ := kvs_paired r1 q1
          rw [Vals.ref1 rv]
          obtain ⟨ho, hz, its, rv', o', ho', hcl, n, hdat⟩ := (show ObjOk X.prog X.w H s.heap a (.frz o (.tup (ps.map V.ref))) from I.hok a _ h1)
          obtain rfl : o' = o := Option.some.inj (ho'.symm.trans ho)
          have ei := refs_at rv'
          subst ei
          obtain ⟨prs, pv, rel, hl, hl2, hpr⟩ := pairs2 I hp
          rw [List.length_map] at hz
          refine PySem.call_dict_pairs (knd := mixKind X.prog X.w) (kvs := prs) (PairArg.tuple a (ps.map Value.ref).toArray (fun j => ps.getD j 0) pv) (I.ok.hd hc) ⟨⟨o', n, ho, hcl, hdn, hdat⟩, by simp [hl2], fun j u y e => ?_⟩ ⟨by rw [hl, hl2], fun j u y e => ?_⟩ (by rw [hl2]; exact hz) fun h' tk hd' k => ?_
          · obtain ⟨b, k, e1, e2, e3, e4⟩ := hpr j u y e
            have eb : ps.getD j 0 = b := by simp [List.getD_eq_getElem?_getD, e1]
            exact ⟨by simp [e1, List.getD_eq_getElem?_getD], .inl (by show s.heap.IsTuple (ps.getD j 0) #[u, y]; rw [eb]; exact e3)⟩
          · obtain ⟨b, k, e1, e2, e3, e4⟩ := hpr j u y e
            exact ⟨k, e2, e4⟩
          · have hn : H s.heap.objs.size = none := I.hok.fresh (Nat.le_refl _)
            have hsys : (s.heap.objs.size == sysModules) = false := beq_eq_false_iff_ne.mpr (Nat.ne_of_gt I.big)
            have hpk : prs.map (·.1) = ks.map (·.1) := paired_keys (F := fun (p : Key × V) (q : Key × Value) => p.1 = q.1 ∧ RelV p.2 q.2) rel fun _ _ z => z.1
            have hm : merged [] prs = prs := by
              have := merged_nd prs [] (by rw [hpk, hkeys]; exact hk.1)
              simpa using this
            rw [hm] at hd'
            have hlen : ks.length ≤ sizeLine := by rw [vdk_len hd]; exact Nat.le_trans hk.2 (by decide)
            exact ⟨.ref s.heap.objs.size, upd H s.heap.objs.size (.dK ks), m, I.laid (t' := tk) (fun b o e => k b o (fun z => nomatch z) e) (Nat.le_refl _) (show ObjOk X.prog X.w _ _ _ (.dK ks) from ⟨hlen, hsys, prs, rel, hd'⟩), rfl, Ext.fresh hn, q.fresh hn, .dct (q.nin hn) upd_same (VDk.ext (Ext.fresh hn) q.muts hd)⟩
      · cases e
  · cases e⟩
theorem pairsT2 {pins : List (Addr × Obj)} {σ : L2.St} {H : Hp} {s : Shared} (I : Inv X pins σ H s) : ∀ {ps : List (Addr × Addr)} {ks : List (List Key × V)}, Paired (fun p (kv : List Key × V) => H p.1 = some (.tup [.ref p.2, kv.2]) ∧ H p.2 = some (.tup (kv.1.map kV))) ps ks →
    ∃ (prs : List (List Key × Addr × Value)) (pv : List (Value × Value)), Paired (fun (p : List Key × V) (q : List Key × Addr × Value) => p.1 = q.1 ∧ H q.2.1 = some (.tup (p.1.map kV)) ∧ RelV p.2 q.2.2) ks prs ∧ prs.length = ps.length ∧ pv.length = ps.length ∧ ∀ (j : Nat) (u y : Value), pv[j]? = some (u, y) → ∃ (b c : Addr) (k : List Key), ps[j]? = some (b, c) ∧ u = .ref c ∧ prs[j]? = some (k, c, y) ∧ IsTup s.heap b #[u, y]
  | _, _, .nil => ⟨[], [], .nil, rfl, rfl, fun j u y e => by simp at e⟩
  | _, _, .cons (a := p) (b := kv) h t => by
    obtain ⟨prs, pv, r, hl, hl2, hp⟩ := pairsT2 I t
    obtain ⟨its, rv, ht, _⟩ := I.tuple (SqT.of h.1)
    obtain ⟨u, y, ei, ru, ry⟩ := vals2 rv
    subst ei
    obtain rfl : u = Value.ref p.2 := ru
    refine ⟨(kv.1, p.2, y) :: prs, (.ref p.2, y) :: pv, .cons ⟨rfl, h.2, ry⟩ r, by rw [List.length_cons, List.length_cons, hl], by rw [List.length_cons, List.length_cons, hl2], fun j u' y' e => ?_⟩
    cases j with
    | zero =>
      have e' : (Value.ref p.2, y) = (u', y') := Option.some.inj e
      cases e'
      exact ⟨p.1, p.2, kv.1, rfl, rfl, rfl, ht⟩
    | succ j =>
      obtain ⟨b, c, k, e1, e2, e3⟩ := hp j u' y' (by simpa using e)
      exact ⟨b, c, k, by simpa using e1, e2, by simpa using e3.1, e3.2⟩
/-- dict(pairs), the keys tuples of numbers and texts, each once -/
def gDictT : GC := fun S ds => match ds with
  | [.lst xs] => (kvsOfT xs).bind fun kvs => if (keysT kvs).Nodup ∧ kvs.length ≤ 100000 then some (.dct true kvs) else none
  | _ => none
theorem cl_dictT (hc : X.calm = true) (hu : X.A.units + 64 < cLine) : CallL X (.type "dict") gDictT := ⟨fun pins s σ H m S xs ds d us I q r rv e => by
  unfold gDictT at e
  split at e
  · rename_i ys
    cases q1 : kvsOfT ys with
    | none => rw [q1] at e; cases e
    | some kvs =>
      rw [q1] at e
      dsimp only [Option.bind] at e
      split at e
      · rename_i hk
        cases e
        obtain ⟨v, rfl, w⟩ := r.one
        obtain ⟨a, vs, rfl, h1, r1⟩ := vw_lst (S := S) q w rfl
        obtain ⟨ps, ks, rfl, hp, hd, hkeys⟩ := kvs_pairedT r1 q1
        rw [Vals.ref1 rv]
        obtain ⟨its, rv', ⟨o, n, ho, hcl, hdn, hdat⟩, hz⟩ := I.list h1
        have hmm : (ps.map fun p => V.ref p.1) = (ps.map (·.1)).map V.ref := by rw [List.map_map]; rfl
        rw [hmm] at rv'
        have ei := refs_at rv'
        subst ei
        obtain ⟨prs, pv, rel, hl, hl2, hpr⟩ := pairsT2 I hp
        rw [List.length_map] at hz
        have relH := rel
        refine PySem.call_dict_pairsH (knd := tupleKind (mixKind X.prog X.w)) (ps := prs) (PairArg.list a ((ps.map (·.1)).map Value.ref).toArray (fun j => (ps.map (·.1)).getD j 0) pv) (I.ok.hd hc) (tupleKind_room_in1 (A := X.A.in1) (by show X.A.units + 1 + 1 < cLine; omega)) ⟨⟨o, n, ho, hcl, hdn, hdat⟩, by simp [hl2], fun j u y e => ?_⟩ ⟨by rw [hl, hl2], fun j u y e => ?_⟩ (fun h' hk' x hx => ?_) (by rw [hl2]; exact hz) fun h' tk hd' k => ?_
        · obtain ⟨b, c, k, e1, e2, e3, e4⟩ := hpr j u y e
          have eb : (ps.map (·.1)).getD j 0 = b := by simp [List.getD_eq_getElem?_getD, e1]
          exact ⟨by simp [e1, List.getD_eq_getElem?_getD], .inl (by show s.heap.IsTuple ((ps.map (·.1)).getD j 0) #[u, y]; rw [eb]; exact e4)⟩
        · obtain ⟨b, c, k, e1, e2, e3, e4⟩ := hpr j u y e
          exact ⟨k, c, e3, e2⟩
        · have hx' : H x.2.1 = some (.tup (x.1.map kV)) := by
            obtain ⟨y, z1, z2, _⟩ := paired_right rel x hx
            rw [← z1]; exact z2
          obtain ⟨ob, it, n', g1, g2⟩ := key_of I.hok hx'
          exact ⟨ob, it, n', hk' _ _ (Nat.ne_of_lt (Heap.lt_size g1)) (fun z => nomatch z) g1, g2⟩
        · have hn : H s.heap.objs.size = none := I.hok.fresh (Nat.le_refl _)
          have hsys : (s.heap.objs.size == sysModules) = false := beq_eq_false_iff_ne.mpr (Nat.ne_of_gt I.big)
          have hpk : prs.map (·.1) = ks.map (·.1) := paired_keys rel fun _ _ z => z.1
          have hm : storedAllH [] prs = prs := by
            have := storedAll_nd prs [] (by rw [hpk, hkeys]; exact hk.1)
            simpa using this
          rw [hm] at hd'
          have hlen : ks.length ≤ sizeLine := by rw [vdt_len hd]; exact Nat.le_trans hk.2 (by decide)
          obtain ⟨ob, es, ep, g1, g2, g3, g4, g5, g6⟩ := hd'
          have rel2 : Paired (fun (p : List Key × V) (q : List Key × Addr × Value) => p.1 = q.1 ∧ upd H s.heap.objs.size (.dT ks) q.2.1 = some (.tup (p.1.map kV)) ∧ RelV p.2 q.2.2) ks prs := L2.Paired.mapP rel fun p q z => ⟨z.1, by rw [upd_ne (fun e => by rw [e, hn] at z; cases z.2.1)]; exact z.2.1, z.2.2⟩
          exact ⟨.ref s.heap.objs.size, upd H s.heap.objs.size (.dT ks), m, I.laid (t' := tk) (fun b o e => k b o (fun z => nomatch z) e) (Nat.le_refl _) (show ObjOk X.prog X.w _ _ _ (.dT ks) from ⟨hlen, hsys, prs, rel2, ob, es, ep, g1, g2, g3, g4, g6⟩), rfl, Ext.fresh hn, q.fresh hn, .dctT (q.nin hn) upd_same (VDt.ext (Ext.fresh hn) q.muts hd)⟩
      · cases e
  · cases e⟩
end
end MP

/-! ### list(zip(xs, ys)) of two lists -/
namespace MP
open PySem PySem.W PySem.Spec PyProof.Rows L2
/-- the made tuples: rising places, each a pair -/
structure Prs (xs ys : Array Value) (lo : Addr) (h : Heap) (as : List Addr) : Prop where
  rise : as.Pairwise (· < ·)
  above : ∀ a ∈ as, lo < a
  prs : ∀ (j : Nat) (a : Addr), as[j]? = some a → ∃ x y, xs[j]? = some x ∧ ys[j]? = some y ∧ IsPair h a x y
theorem Prs.nil {xs ys : Array Value} {lo : Addr} {h : Heap} : Prs xs ys lo h [] := ⟨List.Pairwise.nil, (fun _ z => nomatch z), (fun j a z => by simp at z)⟩
theorem Prs.snoc {xs ys : Array Value} {lo : Addr} {h h' : Heap} {as : List Addr} {x y : Value} (g : Prs xs ys lo h as) (hlo : lo < h.objs.size) (ex : xs[as.length]? = some x) (ey : ys[as.length]? = some y) (new : IsPair h' h.objs.size x y) (k : ∀ a, lo < a → ∀ o, h.get? a = some o → h'.get? a = some o) : Prs xs ys lo h' (as ++ [h.objs.size]) where
  rise := List.pairwise_append.mpr ⟨g.rise, List.pairwise_singleton _ _, fun a ha b hb => by
    obtain ⟨j, hj⟩ := List.getElem?_of_mem ha
    obtain ⟨_, _, _, _, e⟩ := g.prs j a hj
    rw [List.mem_singleton.mp hb]
    exact Heap.lt_size e⟩
  above := fun a ha => by
    rcases List.mem_append.mp ha with z | z
    · exact g.above a z
    · rw [List.mem_singleton.mp z]; exact hlo
  prs := fun j a e => by
    by_cases q : j < as.length
    · rw [List.getElem?_append_left q] at e
      obtain ⟨u, v, e1, e2, e3⟩ := g.prs j a e
      exact ⟨u, v, e1, e2, k a (g.above a (List.mem_of_getElem? e)) _ e3⟩
    · by_cases q2 : j = as.length
      · subst q2
        have e' : h.objs.size = a := by simpa using e
        subst e'
        exact ⟨x, y, ex, ey, new⟩
      · rw [List.getElem?_eq_none (by rw [List.length_append, List.length_singleton]; omega)] at e
        cases e
/-- a zip of two lists that stands at its i-th turn, while a list grows at S -/
structure Zt (z TI TO i1 i2 l1 l2 S : Addr) (xs ys : Array Value) (h : Heap) (i : Nat) : Prop where
  ti : IsPair h TI (.ref i1) (.ref i2)
  ia : h.IsListIter i1 l1 i
  ib : h.IsListIter i2 l2 i
  la : h.IsList l1 xs
  lb : h.IsList l2 ys
  out : (IsZip h z TI TO .none ∧ ∃ p q, IsPair h TO p q) ∨ ∃ T f oT, IsZipHeld h z TI TO T f ∧ h.get? T = some oT ∧ T ≠ z ∧ T ≠ i1 ∧ T ≠ i2 ∧ T ≠ S
section
variable {z TI TO i1 i2 l1 l2 S : Addr} {xs ys : Array Value}
theorem Zt.frame {h h' : Heap} {i : Nat} (t : Zt z TI TO i1 i2 l1 l2 S xs ys h i) (hS : S ∉ [z, TI, TO, i1, i2, l1, l2]) (k : ∀ b o, b ≠ S → h.get? b = some o → h'.get? b = some o) : Zt z TI TO i1 i2 l1 l2 S xs ys h' i := by
  simp only [List.mem_cons, List.not_mem_nil, or_false, not_or] at hS
  obtain ⟨s1, s2, s3, s4, s5, s6, s7⟩ := hS
  refine ⟨k _ _ (Ne.symm s2) t.ti, t.ia.at fun o e => k _ o (Ne.symm s4) e, t.ib.at fun o e => k _ o (Ne.symm s5) e, t.la.at fun o e => k _ o (Ne.symm s6) e, t.lb.at fun o e => k _ o (Ne.symm s7) e, ?_⟩
  rcases t.out with ⟨g, p, q, e⟩ | ⟨T, f, oT, g, e, n1, n2, n3, n4⟩
  · exact .inl ⟨k _ _ (Ne.symm s1) g, p, q, k _ _ (Ne.symm s3) e⟩
  · exact .inr ⟨T, f, oT, k _ _ (Ne.symm s1) g, k _ _ n4 e, n1, n2, n3, n4⟩
variable {prog : Program} {w : World} {A : Around} {E : Value → Shared → Prop} {s : Shared}
theorem Zt.turn {Q : Option Value → Shared → Prop} {i : Nat} {x y : Value} (D : ZipApart z TI TO i1 i2 l1 l2) (t : Zt z TI TO i1 i2 l1 l2 S xs ys s.heap i) (hS : S < s.heap.objs.size) (ex : xs[i]? = some x) (ey : ys[i]? = some y)
    (hQ : ∀ h', Zt z TI TO i1 i2 l1 l2 S xs ys h' (i + 1) → IsPair h' s.heap.objs.size x y → (∀ c o, c ∉ [z, TO, i1, i2] → s.heap.get? c = some o → h'.get? c = some o) → Q (some (.ref s.heap.objs.size)) { s with heap := h' }) :
    wpAny (model prog w) A (pyNext (.ref z)) Q E s := by
  have apart : ∀ {c o}, s.heap.get? c = some o → s.heap.objs.size ≠ c := fun e => Nat.ne_of_gt (Heap.lt_size e)
  obtain ⟨o1, q1, _⟩ := id t.ia
  obtain ⟨o2, q2, _⟩ := id t.ib
  rcases t.out with ⟨g, p, q, e⟩ | ⟨T, f, oT, g, e, n1, n2, n3, n4⟩
  · refine wpAny_pyNext_zip_item D g t.ti e t.ia t.ib t.la t.lb ex ey fun h' b1 b2 b3 b4 b5 b6 keep => ?_
    refine hQ h' ⟨keep _ _ D.TIz D.TITO D.TIi1 D.TIi2 t.ti, b3, b4, t.la.at fun o e => keep _ o D.l1z D.l1TO D.l1i1 D.l1i2 e, t.lb.at fun o e => keep _ o D.l2z D.l2TO D.l2i1 D.l2i2 e, .inr ⟨_, false, _, b1, b5, apart g, apart q1, apart q2, Nat.ne_of_gt hS⟩⟩ b5 fun c o nc e => ?_
    simp only [List.mem_cons, List.not_mem_nil, or_false, not_or] at nc
    exact keep c o nc.1 nc.2.1 nc.2.2.1 nc.2.2.2 e
  · refine wpAny_pyNext_zip_item_held D g e t.ti t.ia t.ib t.la t.lb ex ey fun h' b1 b3 b4 b5 b6 keep => ?_
    refine hQ h' ⟨keep _ _ D.TIz D.TIi1 D.TIi2 t.ti, b3, b4, t.la.at fun o e => keep _ o D.l1z D.l1i1 D.l1i2 e, t.lb.at fun o e => keep _ o D.l2z D.l2i1 D.l2i2 e, .inr ⟨T, true, oT, b1, keep _ _ n1 n2 n3 e, n1, n2, n3, n4⟩⟩ b5 fun c o nc e => ?_
    simp only [List.mem_cons, List.not_mem_nil, or_false, not_or] at nc
    exact keep c o nc.1 nc.2.2.1 nc.2.2.2 e
theorem Zt.over {Q : Option Value → Shared → Prop} {i : Nat} (hh : A.handled = none) (D : ZipApart z TI TO i1 i2 l1 l2) (t : Zt z TI TO i1 i2 l1 l2 S xs ys s.heap i) (no : xs[i]? = none ∨ ys[i]? = none)
    (hQ : ∀ h', (∀ c o, c ∉ [z, TO, i1, i2] → s.heap.get? c = some o → h'.get? c = some o) → Q none { s with heap := h' }) : wpAny (model prog w) A (pyNext (.ref z)) Q E s := by
  rcases t.out with ⟨g, p, q, e⟩ | ⟨T, f, oT, g, e, n1, n2, n3, n4⟩
  · refine wpAny_pyNext_zip_end hh D g t.ti e t.ia t.ib t.la t.lb no fun h' keep => hQ h' fun c o nc e => ?_
    simp only [List.mem_cons, List.not_mem_nil, or_false, not_or] at nc
    exact keep c o nc.1 nc.2.1 nc.2.2.1 nc.2.2.2 e
  · refine wpAny_pyNext_zip_end_held hh D g e t.ti t.ia t.ib t.la t.lb no fun h' keep => hQ h' fun c o nc e => ?_
    simp only [List.mem_cons, List.not_mem_nil, or_false, not_or] at nc
    exact keep c o nc.1 nc.2.2.1 nc.2.2.2 e
variable {R : Result → Shared → Prop}
end
end MP

namespace MP
open PySem PySem.W PySem.Spec PyProof.Rows L2
section
variable {X : Cx} {m : List Addr} {H : Hp} {S : Sto} {h' : Heap} {sz lo : Addr} {us ws : Array Value} {as : List Addr} {vs zs : List V} {xs ys : List D}
/-- what is known when the first j of the made pairs are tracked -/
structure LayP (X : Cx) (m : List Addr) (H : Hp) (S : Sto) (h' : Heap) (sz : Addr) (as : List Addr) (xs ys : List D) (j : Nat) (H' : Hp) : Prop where
  ok : HOk X.prog X.w H' h'
  old : ∀ b o, H b = some o → H' b = some o
  low : ∀ b, b < sz → H b = none → H' b = none
  high : ∀ b, sz ≤ b → b ∉ as.take j → H' b = none
  ext : Ext m H m H'
  sr : SR X.K m H' S
  vr : VRs X.K m H' ((as.take j).map V.ref) ((zipD xs ys).take j)
end
section
variable {prog : Program} {w : World} {A : Around} {E : Value → Shared → Prop} {s : Shared} {z TI TO i1 i2 l1 l2 : Addr} {xs ys : Array Value}
end
/-- the list of the pairs of two lists -/
def gListZip : GC := fun _ ds => match ds with
  | [.lst xs, .lst ys] => if (zipD xs ys).length ≤ 100000 then some (.lst (zipD xs ys)) else none
  | _ => none
end MP

/-! ### min of a list of texts; range(i, j, 2) -/
namespace MP
open PySem PySem.W PySem.Spec PyProof.Rows L2
def minS (x : Str) (xs : List Str) : Str := xs.foldl (fun a y => if decide (y.cps.toList < a.cps.toList) then y else a) x
theorem depth_strs : ∀ xs : List Str, PyData.depthAll (xs.map PyData.str) = 0
  | [] => rfl
  | x :: xs => by
    rw [List.map_cons]
    simp only [PyData.depthAll, PyData.depth, depth_strs xs]
    rfl
def gMinS : GC := fun S ds => match ds with
  | [d] => match vw S d with
    | .lst l => match strsD l with
      | some (x :: xs) => some (.str (minS x xs))
      | _ => none
    | _ => none
  | _ => none
/-- range(i, j, c), c from 1 on -/
def lRange3 (t : LA) : LI := fun ρ S => (t ρ S).bind fun ds S1 => match ds with
  | [.int i, .int j, .int c] => if 0 ≤ i ∧ i < 2 ^ 20 ∧ -(2 ^ 20) ≤ j ∧ j < 2 ^ 20 ∧ c = 2 then .ok ⟨(List.range ((j - i + 1) / 2).toNat).map fun (k : Nat) => .int (i + (k : Int) * 2), fun _ => True⟩ S1 else .bad
  | _ => .bad
end MP

/-! ### x not in [None, an object, an object], by an own __eq__ -/
namespace MP
open PySem PySem.SeqAt PySem.MeetsSeq PySem.MeetsSeq2 PySem.MeetsSeq3 PySem.SeqRoads2
open PySem.AutoSeq1 (wpAny_loadPart')
section
variable {prog : Program} {w : World} {A : Around} {R : Result → Shared → Prop}
end
end MP

namespace MP
open PySem PySem.Spec PyProof.Rows L2
section
variable {X : Cx} {C : Addr} {ts : List Tg} {gp : G2} {k : Nat} {f : Addr} {fd : FuncData} {ps : List Str} {A' : Around}
/-- what is had behind such a comparison -/
def Beh (X : Cx) (pins : List (Addr × Obj)) (σ : L2.St) (m : List Addr) (H : Hp) (S : Sto) (s' : Shared) : Prop := ∃ H' m', Inv X pins σ H' s' ∧ Ext m H m' H' ∧ SR X.K m' H' S
/-- x not in [None, d, e]: some False where e is as x is -/
def gNotIn3 (C : Addr) (ts : List Tg) (gp : G2) : G2 := fun S x y => match y with
  | .lst [.non, d, e] => match gp S x .non, gOwnEq C ts gp S d x, gOwnEq C ts gp S e x, vw S x with
    | some (.bl false), some (.bl _), some (.bl true), .obj C' _ => if C' = C then some (.bl false) else none
    | _, _, _, _ => none
  | _ => none
end
end MP

/-! ### a def with defaults -/
namespace MP
open PySem PySem.Spec PyProof.Rows L2
section
variable {P : Program} {w : World} {K : PySem.W.Frag} {mg : Str → Option Value} {base : Heap}
theorem FunD.okG {x qual : Str} {params : Arguments} {body : List Stmt} {scope : Scope} {dvs : List V} {kws : List (Str × V)} {f : Addr} {fd : FuncData} {N ps : List Str} {k : Nat} {sp : Sp} (F : FunD K x qual params body scope dvs kws f fd) (S : FnScope N ps scope) (len : ∀ vs H Q E, sp vs H Q E → vs.length = ps.length)
    (hbody : ∀ (cdv : Value) (A : Around) (outer : List Env) (s : Shared) (H : Hp) (vs : List V) (Q : VK) (E : XK), MP.Room k (A.deeper (envOfC qual scope s.heap.objs.size f cdv)) → sp vs H Q E →
      ∃ t, PSs (cxOf (L2.CX P w) P w K mg base N qual scope f cdv A outer s H E) body t ∧ t { nx := fun _ H' => Q .non H', rt := Q } (L2.start N vs) H) : MP.FnOk P w K mg base (L2.CX P w) (k + 1) f fd ps sp := by
  obtain ⟨oc, od, dV, kV, doc, pm, an, cdv, ct, osl, rfl, lk, hcd, _, _⟩ := F.ex
  exact fnG_of lk hcd S len fun A outer s H vs Q E hr hsp => hbody cdv A outer s H vs Q E hr hsp
theorem FunD.okL {x qual : Str} {params : Arguments} {body : List Stmt} {scope : Scope} {dvs : List V} {kws : List (Str × V)} {f : Addr} {fd : FuncData} {N ps : List Str} {k : Nat} {lb : LS} (Fn : FunD K x qual params body scope dvs kws f fd) (S : FnScope N ps scope)
    (hb : ∀ (cdv : Value) (A : Around) (outer : List Env) (s : Shared) (H : Hp) (E : XK), Room k (A.deeper (envOfC qual scope s.heap.objs.size f cdv)) → PSsL (cxL P w K mg base N qual scope f cdv A outer s H E) body lb) :
    FnL P w K mg base (k + 1) f fd ps (bodyF N.length lb) := by
  refine FunD.okG Fn S (fun vs H Q E h => h.1) fun cdv A outer s H vs Q E hr h => ⟨_, hb cdv A outer s H E hr, ?_⟩
  obtain ⟨hl, m, S0, ds, x0, r, nb, q1, q2⟩ := h
  refine ⟨m, ds.map some ++ List.replicate (N.length - ds.length) none, S0, x0, ?_, ?_, ?_⟩
  · exact er_start r
  · simp [L2.start, r.length]
  · have hB : ∀ a, bodyF N.length lb ds S0 = a → fin (lb (ds.map some ++ List.replicate (N.length - ds.length) none) S0) = a := fun a h => h
    generalize hA : lb (ds.map some ++ List.replicate (N.length - ds.length) none) S0 = A0 at hB
    have hb0 : bodyF N.length lb ds S0 = fin A0 := by unfold bodyF; rw [hA]
    rw [hb0] at nb q1 q2
    refine ⟨?_, fun ρ' S' e σ' H' ⟨m', e', x', er', _⟩ => ?_, fun d S' e v H' z => ?_, fun ρ' S' e => ?_, fun ρ' S' e => ?_, fun C fs ρ' S' e u s' z => ?_⟩
    · cases A0 with
      | bad => exact absurd rfl nb
      | exc C fs S' => exact absurd rfl nb
      | ok fl S' => exact ⟨fl, S', rfl⟩
    · subst e
      exact q1 .non S' rfl .non H' ⟨m', e', x', .non⟩
    · subst e
      exact q1 d S' rfl v H' z
    · subst e
      exact absurd rfl nb
    · subst e
      exact absurd rfl nb
    · subst e
      refine takes_of (E := E) rfl rfl rfl rfl u s' (XE.imp z fun cls d σ' H' w => ?_)
      obtain ⟨w1, m', w2, w4, w5, _⟩ := w
      exact q2 C fs S' rfl cls d H' ⟨w1, m', w2, w4, w5⟩
end
end MP

/-! sum of numbers, list.extend, dict(..) put into the store, is a truth, < of any data, in a tuple of texts -/
namespace MP
open PySem PySem.Spec PyProof.Rows L2
section
variable {X : Cx}
def intsOf : List D → Option (List Int)
  | [] => some []
  | .int b :: r => (intsOf r).map fun bs => b :: bs
  | _ => none
def gSum : GC := fun S ds => match ds with
  | [d] => match vw S d with
    | .lst xs => (intsOf xs).map fun bs => .int bs.sum
    | _ => none
  | _ => none
/-- x is True, x is False -/
def gIsB : G2 := fun _ x y => match x, y with
  | .bl a, .bl b => some (.bl (decide (a = b)))
  | _, _ => none
def notNon : PyData → Bool
  | .none => false
  | _ => true
/-- x < y, of any data -/
def gLtD : G2 := fun S x y => match toPD (vw S x), toPD (vw S y) with
  | some p, some q => if PySem.W.alike p q = true ∧ notNon p = true ∧ p.depth ≤ 50 then some (.bl (PySem.W.dataLt p q)) else none
  | _, _ => none
/-- in a tuple of texts -/
def gInT : G2 := fun S x y => match vw S x, y with
  | .str i, .tup l => (strsD l).map fun ys => .bl (decide (i ∈ ys))
  | _, _ => none
def gNotInT : G2 := fun S x y => match vw S x, y with
  | .str i, .tup l => (strsD l).map fun ys => .bl (!decide (i ∈ ys))
  | _, _ => none
theorem opl_inT : OpL X (compareOp .In) gInT := .of op_in_seq fun H m S x y dx dy d q rx ry e => by
  unfold gInT at e
  split at e
  · rename_i i l e1
    cases hs : strsD l with
    | none => rw [hs] at e; cases e
    | some ys =>
      rw [hs] at e
      cases e
      have hl := strsD_eq hs
      subst hl
      have ex := vw_str rx e1
      subst ex
      cases ry with
      | @tup a vs _ h1 r =>
        have hv := vrs_strs r
        subst hv
        refine ⟨a, _, rfl, .inr (SqT.of h1), rfl, flat_strs ys, ?_⟩
        show QV X.K m H S _ (.bl (inV (.str i) (ys.map V.str))) H
        rw [inV_strs]
        exact qv_same q (.bl _)
  · cases e
theorem opl_notInT : OpL X (compareOp .NotIn) gNotInT := .of op_notIn_seq fun H m S x y dx dy d q rx ry e => by
  unfold gNotInT at e
  split at e
  · rename_i i l e1
    cases hs : strsD l with
    | none => rw [hs] at e; cases e
    | some ys =>
      rw [hs] at e
      cases e
      have hl := strsD_eq hs
      subst hl
      have ex := vw_str rx e1
      subst ex
      cases ry with
      | @tup a vs _ h1 r =>
        have hv := vrs_strs r
        subst hv
        refine ⟨a, _, rfl, .inr (SqT.of h1), rfl, flat_strs ys, ?_⟩
        show QV X.K m H S _ (.bl (!inV (.str i) (ys.map V.str))) H
        rw [inV_strs]
        exact qv_same q (.bl _)
  · cases e
end
end MP

/-! list.extend by any list -/
namespace PySem.AutoSeq1
open PySem PySem.MeetsSeq
end PySem.AutoSeq1
namespace MP
open PySem PySem.Spec PyProof.Rows L2
section
variable {X : Cx}
/-- xs.extend(a list) -/
def stExt : GM := fun S r ds => match r, ds with
  | .ref j, [.lst ys] => match S[j]? with
    | some (.lst xs) => if xs.length + ys.length ≤ 100000 then some (.non, S.set j (.lst (xs ++ ys))) else none
    | _ => none
  | _, _ => none
/-- dict(pairs) into the store -/
def lDictN (t : LA) : LE := fun ρ S => (t ρ S).bind fun ds S1 => match ds with
  | [.lst xs] => match kvsOf xs with
    | some kvs => if (keysK kvs).Nodup ∧ kvs.length ≤ 100000 then .ok (.ref S1.length) (S1 ++ [.dct false kvs]) else .bad
    | none => .bad
  | _ => .bad
end
end MP

/-! int(a text of many figures): 1 and 900 noughts -/
namespace PySem.W
open PySem PySem.Calls PySem.NumText PyProof.Rows
def bigS : Str := ⟨(49 :: List.replicate 900 48).toArray⟩
end PySem.W
namespace MP
open PySem PySem.Spec PyProof.Rows L2
section
variable {X : Cx}
def gIntBig : GC := fun _ ds => match ds with
  | [.str z] => if z = PySem.W.bigS then some (.int ((10 ^ 900 : Nat) : Int)) else none
  | _ => none
end
end MP

/-! sorted(zip(a, b)), tuple(zip(a, b)) of two lists -/
namespace MP
open PySem PySem.W PySem.Spec PyProof.Rows L2
open AutoSeq1 (wpAny_loadPart')
section
variable {prog : Program} {w : World} {A : Around} {E : Value → Shared → Prop} {s : Shared} {z TI TO i1 i2 l1 l2 : Addr} {xs ys : Array Value}
end
section
variable {prog : Program} {w : World}
end
section
variable {X : Cx} {pins : List (Addr × Obj)} {σ : L2.St} {H1 : Hp} {s1 : Shared} {m1 : List Addr} {S1 : Sto}
end
/-- sorted(zip(xs, ys)) -/
def gSortZip : GC := fun S ds => match ds with
  | [dx, dy] => match vw S dx, vw S dy with
    | .lst xs, .lst ys => if (zipD xs ys).length ≤ 100000 ∧ srtOk (zipD xs ys) = true then some (.lst ((zipD xs ys).mergeSort leD)) else none
    | _, _ => none
  | _ => none
/-- tuple(zip(xs, ys)) -/
def gTupZip : GC := fun S ds => match ds with
  | [dx, dy] => match vw S dx, vw S dy with
    | .lst xs, .lst ys => if (zipD xs ys).length ≤ 100000 then some (.ftup (zipD xs ys)) else none
    | _, _ => none
  | _ => none
end MP

namespace MP
open PySem PySem.Spec PyProof.Rows L2
section
variable {P : Program} {w : World} {A : Around} {R : Result → Shared → Prop} {E : Value → Shared → Prop} {s : Shared}
end
end MP

/-! sorted(set(a tuple of texts)), len(set(a list of pairs of texts)) -/
namespace MP
open PySem PySem.Spec PyProof.Rows L2
section
variable {P : Program} {w : World} {A : Around} {R : Result → Shared → Prop} {E : Value → Shared → Prop} {s : Shared}
end
/-- sorted(set(a tuple of texts)) -/
def gSortSetT : GC := fun _ ds => match ds with
  | [.tup l] => match strsD l with
    | some ys => if ys.length ≤ 4000 then some (.lst ((srtS ys).map D.str)) else none
    | none => none
  | _ => none
/-- len(set(a list of pairs of texts)) -/
def gLenSetP : GC := fun S ds => match ds with
  | [d] => match vw S d with
    | .lst xs => match psOf xs with
      | some ps => if ps.length < 64 then some (.int ((nubP ps).length : Int)) else none
      | none => none
    | _ => none
  | _ => none
end MP

/-! what a def made and nobody reaches any more is let go; what it tells is data then -/
namespace MP
open PySem PySem.Spec PyProof.Rows L2
section
variable {K : PySem.W.Frag} {m l : List Addr} {H H' : Hp} {S S' : Sto}
theorem sr_gcw {m' : List Addr} (x : SR K m H S) (e : Ext m H m' H') (x' : SR K m' H' S') (h : ∀ (i : Nat) (o : O), S'[i]? = some o → i < S.length → S[i]? = some o ∨ belowo S.length o = true) : SR K m H' (S'.take S.length) ∧ Ext m H m H' := by
  obtain ⟨l, el⟩ := e.pre
  subst el
  have l1 := x.len
  have l2 := x'.len
  rw [List.length_append] at l2
  refine ⟨⟨x.nd, by rw [List.length_take]; omega, fun i a o h1 h2 => ?_⟩, ⟨[], by simp⟩, fun a h => .inl h, e.keep⟩
  have hi := (List.getElem?_eq_some_iff.mp h1).1
  have hi2 : i < S.length := by omega
  rw [List.getElem?_take, if_pos hi2] at h2
  have hb : belowo m.length o = true := by
    rcases h i o h2 hi2 with z | z
    · exact (x.at_ i a o h1 z).bel
    · rw [l1]; exact z
  exact (x'.at_ i a o (by rw [List.getElem?_append_left hi]; exact h1) h2).down hb
theorem qv_gcw {d : D} {v : V} (x : SR K m H S) (q : QV K m H S' d v H') (h : ∀ (i : Nat) (o : O), S'[i]? = some o → i < S.length → S[i]? = some o ∨ belowo S.length o = true) (b : below S.length (fz S' S.length d) = true) : QV K m H (S'.take S.length) (fz S' S.length d) v H' := by
  obtain ⟨m', e, x', w⟩ := q
  obtain ⟨y1, y2⟩ := sr_gcw x e x' h
  obtain ⟨l, el⟩ := e.pre
  subst el
  rw [← x.len] at b y1 ⊢
  exact ⟨m, y2, y1, w.fz_down x' b⟩
end
def Okd (S S' : Sto) : Prop := ∀ (i : Nat) (o : O), S'[i]? = some o → i < S.length → S[i]? = some o ∨ belowo S.length o = true
open Classical in
noncomputable def gcF (g : F) : F := fun ds S => match g ds S with
  | .ok d S' => if below S.length (fz S' S.length d) = true ∧ Okd S S' then .ok (fz S' S.length d) (S'.take S.length) else .ok d S'
  | r => r
theorem FnL.gc {P : Program} {w : World} {K : PySem.W.Frag} {mg : Str → Option Value} {base : Heap} {k : Nat} {f : Addr} {fd : FuncData} {ps : List Str} {g : F} (h : FnL P w K mg base k f fd ps g) : FnL P w K mg base k f fd ps (gcF g) := by
  refine FnOk.imp h fun vs H Q E ⟨hl, m, S, ds, x, r, nb, q1, q2⟩ => ⟨hl, m, S, ds, x, r, ?_⟩
  unfold gcF at nb q1 q2
  cases hg : g ds S with
  | bad => rw [hg] at nb; exact absurd rfl nb
  | exc C fs S1 =>
    rw [hg] at q1 q2
    exact ⟨fun z => (nomatch z), fun d S' e => (nomatch e), fun C' fs' S' e => by cases e; exact q2 _ _ _ rfl⟩
  | ok d S1 =>
    rw [hg] at q1 q2
    dsimp only at q1 q2
    refine ⟨fun z => (nomatch z), fun d' S' e v H' qv => ?_, fun C' fs' S' e => (nomatch e)⟩
    cases e
    by_cases hc : below S.length (fz S1 S.length d) = true ∧ Okd S S1
    · rw [if_pos hc] at q1
      exact q1 _ _ rfl v H' (qv_gcw x qv hc.2 hc.1)
    · rw [if_neg hc] at q1
      exact q1 _ _ rfl v H' qv
end MP

namespace MP
open PySem PySem.Spec PyProof.Rows L2

/-! ### enumerate(a list, start=c) (the road of L2.turn_enum, with the count apart from the place) -/
section
variable {M : Model} {A : Around} {E : Value → Shared → Prop} {s : Shared} {env : Env}
end
def IteC (K : PySem.W.Frag) (c : Int) (a : Addr) : It :=
  ⟨fun i H => ∃ (xs : List V) (x : V), SqL K H a xs ∧ xs[i]? = some x, fun i H v H' => ∃ T x, v = .ref T ∧ H T = none ∧ H' = upd H T (.tup [.int (c + (i : Int)), x]) ∧ ∀ xs, SqL K H a xs → xs[i]? = some x, fun i H => ∃ xs : List V, SqL K H a xs ∧ xs.length ≤ i⟩
def enumFD : Int → List D → List D
  | _, [] => []
  | c, x :: xs => .tup [.int c, x] :: enumFD (c + 1) xs
def lEnumC (c : Int) (t : LA) : LI := fun ρ S => (t ρ S).bind fun ds S1 => match ds with
  | [.lst xs] => .ok ⟨enumFD c xs, fun _ => True⟩ S1
  | _ => .bad
section
variable {X : Cx} {e ek : Expr} {t : LA} {p pos kp : Pos}
end
end MP

namespace MP
open PySem PySem.Spec PyProof.Rows L2

/-! ### a, b, o.f = e; s.partition(t); int(a text); a written dict of defs -/
section
variable {X : Cx}
def stPart : GM := fun S r ds => match r, ds with
  | .str a, [.str b] => if (b.length == 0) = false ∧ a.length ≤ sizeLine then some (.tup [.str (Txt.partition a b).1, .str (Txt.partition a b).2.1, .str (Txt.partition a b).2.2], S) else none
  | _, _ => none
variable {o e : Expr} {lo le : LE} {apos cpos : Pos}
def gIntS : GC := fun _ ds => match ds with
  | [.str a] => if a.length ≤ 640 then (PySem.intText? a).map .int else none
  | _ => none
/-- a short text, many times -/
def gMulT : G2 := fun S dx dy => match vw S dx, vw S dy with
  | .str x, .int n => if 0 ≤ n ∧ n ≤ 10000 ∧ x.length ≤ 10 ∧ (strRep x n).length ≤ sizeLine then some (.str (strRep x n)) else none
  | _, _ => none
/-! the third target: a field of a name's object -/
def gAttr (K : PySem.W.Frag) (i : Nat) (f : Str) : TG := fun v σ H Q => ∃ a C dx fs, σ[i]? = some (some (.ref a)) ∧ H a = some (.ins C dx fs) ∧ Cls K C ∧ NoAttr K C f ∧ fs.length < 1000 ∧ Q σ (upd H a (.ins C dx (putF f v fs)))
def lAsg3F (i j k : Nat) (C : Addr) (f : Str) (le : LE) : LS := fun ρ S => liftX ρ (le ρ S) fun d S1 => match d with
  | .tup [a, b, c] => match ρ[k]? with
    | some (some (.ref r)) => if i ≠ k ∧ j ≠ k then liftS (stFld C f S1 (.ref r) c) ((ρ.set i (some a)).set j (some b)) else .bad
    | _ => .bad
  | _ => .bad
variable {x y z : Str} {pos px py pz ap tp : Pos} {kk : Nat} {C : Addr} {f : Str}
/-! ### x not in a written dict of defs; f = d[x]; return f(..) -/
def lNotKd (has : Str → Option Bool) (l : LE) : LE := fun ρ S => (l ρ S).bind fun d S1 => match d with
  | .str z => match has z with
    | some b => .ok (.bl (!b)) S1
    | none => .bad
  | _ => .bad
end
end MP

namespace MP
open PySem PySem.Spec PyProof.Rows L2
/-- the def that a written dict names at a text, called -/
def lTaker (i n : Nat) (sel : Str → Option F) (lk : LE) (t : LA) : LS := fun ρ S => match lk ρ S with
  | .ok (.str z) S1 => match sel z with
    | some g => if i < ρ.length then liftX (ρ.set i none) (lCall n g [] t (ρ.set i none) S1) fun d S2 => .ok (.rt d) S2 else .bad
    | none => .bad
  | _ => .bad
section
variable {X : Cx} {e ke : Expr} {es : List Expr} {lk : LE} {t : LA} {x gn : Str} {pos1 pos2 px pg ps0 pc cpos : Pos} {k n i : Nat}
structure Sels (P : Program) (w : World) (K : PySem.W.Frag) (mg : Str → Option Value) (base : Heap) (k n : Nat) (d : Addr) (sel : Str → Option F) : Prop where
  to : ∀ z g, sel z = some g → ∃ (f : Addr) (fd : FuncData) (ps : List Str), PySem.W.nsIn K d z = some (some (.ref f)) ∧ ps.length = n ∧ FnL P w K mg base k f fd ps g ∧ PySem.W.keepIn K (.ref f) = true ∧ Binds K fd ps []
end
end MP

namespace MP
open PySem PySem.Spec PyProof.Rows L2
section
variable {X : Cx} {x : Str} {p pos : Pos} {k : Nat} {f C : Addr} {fd : FuncData} {ps : List Str} {g : F}
/-- a number in a tuple of two -/
def gNotInTI : G2 := fun S x y => match vw S x, y with
  | .int i, .tup [.int a, .int b] => some (.bl (!(decide (a = i) || decide (b = i))))
  | _, _ => none
end
end MP

/-! a def whose arguments hold nothing of the store runs as on the empty store -/
namespace MP
open PySem PySem.Spec PyProof.Rows L2
def flatD : D → Bool
  | .non => true
  | .bl _ => true
  | .int _ => true
  | .str _ => true
  | _ => false
def clF (g : F) : F := fun ds S => if belows 0 ds = true then match g ds [] with
  | .ok d _ => if flatD d = true then .ok d S else .bad
  | _ => .bad
  else .bad
theorem FnL.cl {P : Program} {w : World} {K : PySem.W.Frag} {mg : Str → Option Value} {base : Heap} {k : Nat} {f : Addr} {fd : FuncData} {ps : List Str} {g : F} (h : FnL P w K mg base k f fd ps g) : FnL P w K mg base k f fd ps (clF g) := by
  refine FnOk.imp h fun vs H Q E ⟨hl, m, S, ds, x, r, nb, q1, q2⟩ => ?_
  unfold clF at nb q1 q2
  by_cases hb : belows 0 ds = true
  case neg => rw [if_neg hb] at nb; exact absurd rfl nb
  rw [if_pos hb] at nb q1 q2
  have x0 : SR K [] H [] := ⟨List.nodup_nil, rfl, fun i a o h => by simp at h⟩
  have r0 : VRs K ([] ++ m) H vs ds := r
  refine ⟨hl, [], [], ds, x0, r0.down hb, ?_, ?_, ?_⟩
  · intro z
    rw [z] at nb
    exact absurd rfl nb
  · intro d S' e v H' qv
    rw [e] at nb q1
    dsimp only at nb q1
    by_cases hf : flatD d = true
    case neg => rw [if_neg hf] at nb; exact absurd rfl nb
    rw [if_pos hf] at q1
    obtain ⟨m1, e1, x1, w1⟩ := qv
    have ex : Ext m H m H' := ⟨⟨[], by simp⟩, fun a h => .inl h, fun a o _ => e1.keep a o (by simp)⟩
    have hx : SR K m H' S := ⟨x.nd, x.len, fun i a o h1 h2 => (x.at_ i a o h1 h2).ext ex x.muts (by
      have hm := x.mut (List.mem_of_getElem? h1)
      cases ho : H a with
      | none => rw [ho] at hm; exact absurd hm (fun z => z)
      | some ob => exact e1.keep a ob (by simp) ho)⟩
    refine q1 _ _ rfl v H' ⟨m, ex, hx, ?_⟩
    cases w1 with
    | non => exact .non
    | bl b => exact .bl b
    | int i => exact .int i
    | str s => exact .str s
    | _ => cases hf
  · intro C fs S' e
    rw [e] at nb
    exact absurd rfl nb
end MP

/-! xs.pop(), d.pop(k), dict(d), list(d.items()) -/
namespace MP
open PySem PySem.Spec PyProof.Rows L2
section
variable {X : Cx}
theorem VRs.dropLast {K : PySem.W.Frag} {m : List Addr} {H : Hp} {vs : List V} {ds : List D} (r : VRs K m H vs ds) : VRs K m H vs.dropLast ds.dropLast := by
  rw [List.dropLast_eq_take, List.dropLast_eq_take, r.length]
  exact r.take _
def stPop : GM := fun S r ds => match r, ds with
  | .ref j, [] => match S[j]? with
    | some (.lst xs) => (xs[xs.length - 1]?).map fun y => (y, S.set j (.lst xs.dropLast))
    | _ => none
  | _, _ => none
/-- a dict without a key -/
def delK (kvs : List (D × D)) (k : Key) : List (D × D) := kvs.filter fun q => decide (kOf false q.1 ≠ some [k])
def stDpop : GM := fun S r ds => match r, ds with
  | .ref j, [y] => match S[j]?, keyOf y with
    | some (.dct false kvs), some k => (lookD false kvs [k]).map fun d => (d, S.set j (.dct false (delK kvs k)))
    | _, _ => none
  | _, _ => none
/-- dict(d) into the store -/
def lDictC (t : LA) : LE := fun ρ S => (t ρ S).bind fun ds S1 => match ds with
  | [x] => match vw S1 x with
    | .dct false kvs => .ok (.ref S1.length) (S1 ++ [.dct false kvs])
    | _ => .bad
  | _ => .bad
/-- list(d.items()) -/
def lItemsL (l : LE) : LE := fun ρ S => (l ρ S).bind fun d S1 => match vw S1 d with
  | .dct false kvs => .ok (.lst (kvs.map fun q => D.tup [q.1, q.2])) S1
  | _ => .bad
end
end MP

/-! raise C('m'), C an own class without an __init__; try .. except C: .. except D: .., no names (the road of L2.ps_try_many) -/
namespace MP
open PySem PySem.Spec PyProof.Rows L2
section
variable {X : Cx} {x m : Str} {C : Addr} {bmB : List Value} {B newId initId : String} {j : Nat} {p p2 pos pos' : Pos}
def lRaise1 (C : Addr) : LS := fun ρ S => .ok (.ex C [] ρ) S
end
abbrev TabX := Addr → Option Bool
def noX (fl : Fl) (S : Sto) : R Fl := match fl with
  | .ex _ _ _ => .bad
  | fl => .ok fl S
def goM (C : Addr) (fs : List (Str × D)) (ρ : Ev) (S : Sto) : List (TabX × LS) → R Fl
  | [] => .ok (.ex C fs ρ) S
  | (tab, ls) :: r => match tab C with
    | some true => (ls ρ S).bind noX
    | some false => goM C fs ρ S r
    | none => .bad
def catchM (l : List (TabX × LS)) (fl : Fl) (S : Sto) : R Fl := match fl with
  | .ex C fs ρ => goM C fs ρ S l
  | fl => .ok fl S
def lTryM (lb : LS) (l : List (TabX × LS)) : LS := fun ρ S => (lb ρ S).bind (catchM l)
inductive HdL (X : Cx) : List ExceptHandler → List (TabX × LS) → Prop
  | nil : HdL X [] []
  | cons {x : Str} {c : Value} {tab : TabX} {ls : LS} {b₀ : Stmt} {suite : List Stmt} {np pos' : Pos} {hds : List ExceptHandler} {l : List (TabX × LS)} (hc : Names X x c) (htab : ∀ C b, tab C = some b → PySem.W.exmOne X.K (.ref C) c = some b)
      (hsu : ∀ (a : Addr) (pn : List (Addr × Obj)), PSsL (X.suite a pn) (b₀ :: suite) ls) (r : HdL X hds l) :
      HdL X (.ExceptHandler (some (.Name x np)) none (b₀ :: suite) pos' :: hds) ((tab, ls) :: l)
section
variable {X : Cx} {body : List Stmt} {pos : Pos} {lb : LS} {h₀ : ExceptHandler} {hds : List ExceptHandler} {l : List (TabX × LS)}
end
end MP

/-! x in data; a list and a list, into the store; a pair of a dict and a list told apart from ({}, []); three fields as targets; frozen tuples put on -/
namespace MP
open PySem PySem.Spec PyProof.Rows L2
section
variable {X : Cx}
def inP (S : Sto) (x y : D) : Option Bool := (toPD (vw S x)).bind fun a => (toPD (vw S y)).bind fun b => match b with
  | .list bs => if SeqAt.shaped a = true ∧ SeqAt.shaped (.list bs) = true then some (bs.any fun z => PyData.eqv z a) else none
  | .tuple bs => if SeqAt.shaped a = true ∧ SeqAt.shaped (.tuple bs) = true then some (bs.any fun z => PyData.eqv z a) else none
  | _ => none
def gInD : G2 := fun S x y => (inP S x y).map .bl
def gNotInD : G2 := fun S x y => (inP S x y).map fun b => .bl (!b)
/-- frozen or not: the tuple's items -/
def tupOf : D → Option (List D)
  | .tup xs => some xs
  | .ftup xs => some xs
  | _ => none
def gCatF : G2 := fun S x y => match x, y with
  | .ftup a, .tup b => if b ≠ [] ∧ a.length + b.length ≤ 100000 then some (.tup (a ++ b)) else none
  | _, _ => none
theorem opl_catF : OpL X (binaryOp .Add) gCatF := .of op_catA fun H m S x y dx dy d q rx ry e => by
  unfold gCatF at e
  split at e
  · rename_i i j
    split at e
    · rename_i hz
      cases e
      obtain ⟨a, xs, o, rfl, _, ha, r1⟩ := vw_ftup (S := S) rx rfl
      obtain ⟨b, ys, rfl, hb, r2⟩ := vw_tup (S := S) ry rfl
      refine ⟨a, b, xs, ys, rfl, rfl, SqT.rd (.inr ⟨o, ha⟩), SqT.of hb, by rw [r1.length, r2.length]; exact Nat.le_trans hz.2 (by decide), ?_⟩
      refine ⟨fun z => ?_, fun z z' => ?_, fun z z' p hp => ?_⟩
      · have z1 := r1.nil_iff.mp z
        subst z1
        exact qv_same q (.tup hb (by simpa using r2))
      · exact absurd (r2.nil_iff.mp z') hz.1
      · exact qv_new q hp (vr_newTup q hp (r1.append r2))
    · cases e
  · cases e
def gAdd3 : G2 := fun S x y => (gAdd2 S x y).or (gCatF S x y)
theorem opl_add3 : OpL X (binaryOp .Add) gAdd3 := opl_add2.or opl_catF
/-! ### a list and a list, into the store -/
structure OpN (X : Cx) (f : Value → Value → Sem Value) (g : Sto → D → D → Option (List D)) : Prop where
  run : ∀ (pins : List (Addr × Obj)) (s : Shared) (σ : L2.St) (H : Hp) (m : List Addr) (S : Sto) (x y : V) (dx dy : D) (ds : List D) (v u : Value), Inv X pins σ H s → SR X.K m H S → VR X.K m H x dx → VR X.K m H y dy → RelV x v → RelV y u → g S dx dy = some ds →
    wpAny (model X.prog X.w) X.A (f v u) (VP X pins σ m H (.ref S.length) (S ++ [.lst ds])) X.xe s
def gCatN : Sto → D → D → Option (List D) := fun S x y => match vw S x, vw S y with
  | .lst a, .lst b => if a.length + b.length ≤ sizeLine then some (a ++ b) else none
  | _, _ => none
def lBinN (g : Sto → D → D → Option (List D)) (la lb : LE) : LE := fun ρ S => (la ρ S).bind fun x S1 => (lb ρ S1).bind fun y S2 => match g S2 x y with
  | some ds => .ok (.ref S2.length) (S2 ++ [.lst ds])
  | none => .bad
/-! ### a pair of a dict and a list, told apart from ({}, []) -/
def gEqDL : G2 := fun _ x y => match x, y with
  | .tup [.dct false kvs, .lst ps], .tup [.dct false [], .lst []] => some (.bl (kvs.isEmpty && ps.isEmpty))
  | _, _ => none
end
end MP

/-! a.f, a.g, a.h = e -/
namespace MP
open PySem PySem.Spec PyProof.Rows L2
section
variable {K : PySem.W.Frag} {m : List Addr} {H : Hp} {S S3 : Sto}
end
section
variable {X : Cx} {e : Expr} {le : LE} {z f1 f2 f3 : Str} {pos p1 p2 p3 a1 a2 a3 tp : Pos} {kk : Nat} {C : Addr}
def lAsg3A (k : Nat) (C : Addr) (f1 f2 f3 : Str) (le : LE) : LS := fun ρ S => liftX ρ (le ρ S) fun d S1 => match d with
  | .tup [a, b, c] => match ρ[k]? with
    | some (some (.ref r)) => match stFld C f1 S1 (.ref r) a with
      | some S2 => match stFld C f2 S2 (.ref r) b with
        | some S3 => liftS (stFld C f3 S3 (.ref r) c) ρ
        | none => .bad
      | none => .bad
    | _ => .bad
  | _ => .bad
end
end MP
namespace MP
open PySem PySem.Spec PyProof.Rows L2
end MP

/-! sorted(a tuple) -/
namespace PySem.W
open PySem PySem.Calls PyProof.Rows PyProof.Rows.Copied PySem.Spec
section
variable {prog : Program} {w : World} {A : Around} {E : Value → Shared → Prop} {s : Shared} {β : Type} {vs : List Value} {bs : List β} {enc : β → PyData} {R : Value → β → Prop}
theorem collect_tupleM {l : Addr} {Q : List Value → Shared → Prop} (hl : IsTup s.heap l vs.toArray) (hsz : vs.length ≤ sizeLine)
    (h : Q vs { s with heap := (s.heap.push (seqObj "list" #[] 0)).update s.heap.objs.size (Obj.mapSeq (· ++ vs.toArray)) }) : wpAny (model prog w) A (collect (.ref l)) Q E s := by
  obtain ⟨o, ho, hc, n, hd⟩ := id hl
  unfold collect
  refine wpAny_bind (wpAny_runValue (codeAny_builtin entry_proto_collect' ?_))
  show wpAny _ _ (do again (.builtin "list.__iadd__" ⟨[← newList [], .ref l], []⟩)) _ _ s
  refine wpAny_bind (wpAny_newList (wpAny_pure ⟨Code.quiet_builtin _ (by decide +kernel), codeAny_builtin entry_list_iadd' ?_⟩))
  show wpAny _ _ (Builtin.List.listExtendWith (.ref s.heap.objs.size) (.ref l) (.ref s.heap.objs.size)) _ _ { s with heap := s.heap.push (seqObj "list" #[] 0) }
  unfold Builtin.List.listExtendWith
  have o1 : (s.heap.push (seqObj "list" #[] 0)).get? l = some o := Heap.get?_push_of_some _ ho
  refine wpAny_bind (wpAny_typeOf (T := "tuple") ⟨o, o1, hc⟩ ?_)
  have ht : (Value.type "tuple" == Value.type "tuple") = true := by rfl
  rw [if_pos (by rw [ht]; simp)]
  refine wpAny_bind (listItems_at o1 hd ?_)
  refine wpAny_bind (listItems_at (xs := #[]) (n := 0) (Heap.get?_push_size _ rfl) rfl ?_)
  rw [if_neg (by simp)]
  refine wpAny_bind (listUpdate_at (xs := #[]) (n := 0) (Heap.get?_push_size _ rfl) rfl ?_ (Nat.zero_le _) (by show (#[] ++ vs.toArray).size ≤ sizeLine + 1; simp only [Array.size_append, List.size_toArray, List.length_nil]; omega))
  refine wpAny_pure ?_
  refine wpAny_bind (m := load s.heap.objs.size) (wpAny_load (get?_update_seq (Heap.get?_push_size _ rfl) _) ?_)
  show wpAny _ _ (pure ((#[] : Array Value) ++ vs.toArray).toList) Q E _
  rw [show ((#[] : Array Value) ++ vs.toArray).toList = vs by simp]
  exact wpAny_pure h
theorem sorted_dataT {l : Addr} {Q : Value → Shared → Prop} (hl : IsTup s.heap l vs.toArray) (e : EachIs R vs bs) (er : EachIs (fun v b => ∃ as, Reads s.heap v (enc b) as) vs bs) (hal : AllAlike (bs.map enc)) (hk : Sortable (bs.map enc)) (hL : bs.length ≤ sizeLine)
    (hu : ∀ b, b ∈ bs → A.units + 2 + (enc b).depth < cLine) (h : ∀ out, out.length = bs.length → EachIs R out (bs.mergeSort (dataLe false enc)) → Q (.ref (s.heap.objs.size + 1)) { s with heap := sortedAll s.heap vs (List.toArray out) }) :
    wpAny (model prog w) A (call (.builtin "sorted") [.ref l]) Q E s := by
  have hL2 : vs.length ≤ sizeLine := by rw [e.length]; exact hL
  have e2 : EachIs (fun v b => ∃ as, Reads (sortingHeap (copyHeap s.heap vs) (s.heap.objs.size + 1) vs) v (enc b) as) vs bs := er.mono fun _ _ ⟨as, r⟩ => ⟨as, PyProof.Rows.Reads.keeps (fun _ _ => sorting_copy_old) r⟩
  have S := SortsAt.data (prog := prog) (w := w) (A := A.in1.in1) (s := { s with heap := sortingHeap (copyHeap s.heap vs) (s.heap.objs.size + 1) vs }) (each_map (R := fun v d => ∃ as, Reads (sortingHeap (copyHeap s.heap vs) (s.heap.objs.size + 1) vs) v d as) enc e2) hal hk (bound_map hu)
  have fin := h _ (by rw [sortVals_length false rfl]; exact e.length) (sortVals_data false e e2 hal)
  refine call_function_entry_kw kind_sorted plain_sorted entry_sorted (args_sorted1 _) ?_
  unfold Builtin.«sorted»
  refine wpAny_bind (m := checkCount "sorted" 1 1 _) (wpAny_pure ?_)
  refine wpAny_bind (collect_tupleM hl hL2 ?_)
  refine wpAny_bind (wpAny_newList ?_ hL2)
  have hz : ((s.heap.push (seqObj "list" #[] 0)).update s.heap.objs.size (Obj.mapSeq (· ++ vs.toArray))).objs.size = s.heap.objs.size + 1 := by rw [Heap.size_update, size_push']
  show wpAny _ _ _ _ _ { s with heap := copyHeap s.heap vs }
  rw [hz]
  refine wpAny_bind (wpAny_holding (wpAny_call_entry_kw slot_list_sort ⟨_, copyHeap_at s.heap vs, rfl⟩ entry_list_sort ?body (args_list_sort _)))
  case body =>
    show wpAny (model prog w) A.in1.in1 (Builtin.«list.sort» ⟨[.ref (s.heap.objs.size + 1)], []⟩) _ _ _
    exact list_sort_vals (s := { s with heap := copyHeap s.heap vs }) (copyHeap_at s.heap vs) S hL2 ⟨_, rfl, wpAny_pure ⟨_, rfl, fin⟩⟩
end
end PySem.W
namespace MP
open PySem PySem.Spec PyProof.Rows L2
section
variable {X : Cx}
def gSortedT : GC := fun _ ds => match ds with
  | [.tup xs] => if srtOk xs = true then some (.lst (xs.mergeSort leD)) else none
  | _ => none
theorem cl_sortedT (hu : X.A.units + 64 < cLine) : CallL X (.builtin "sorted") gSortedT := ⟨fun pins s σ H m S xs ds d us I q r rv e => by
  unfold gSortedT at e
  split at e
  · rename_i l
    split at e
    · rename_i hk
      cases e
      obtain ⟨h1, h2, h3, h4, h5⟩ := srtOk_inv hk
      obtain ⟨v, rfl, w⟩ := r.one
      obtain ⟨a, vs, rfl, hs, rr⟩ := vw_tup (S := S) w rfl
      obtain ⟨its, rv2, hl, hz⟩ := I.tuple (SqT.of hs)
      rw [Vals.ref1 rv]
      refine PySem.W.sorted_dataT (R := IsV X.K m H) hl (each_isV rv2 rr) (each_reads I rv2 rr h1) h2 h3 h5 (fun b hb => by have := h4 b hb; omega) fun out ho hE => ?_
      obtain ⟨ws, k1, k2⟩ := of_each hE
      obtain ⟨ep, he'⟩ := PyProof.Rows.sortedAll_at s.heap its (List.toArray out)
      have hn : H (s.heap.objs.size + 1) = none := I.hok.fresh (Nat.le_succ _)
      exact ⟨.ref (s.heap.objs.size + 1), upd H (s.heap.objs.size + 1) (.lst ws), m, I.laid (t' := s.toks) (fun _ _ => PyProof.Rows.sortedAll_old) (Nat.le_succ _) ⟨by rw [k1.length, ho]; exact h5, out, ep, k1, he'⟩, rfl, Ext.fresh hn, q.fresh hn, vr_newLst q hn k2⟩
    · cases e
  · cases e⟩
end
end MP

namespace MP
open PySem PySem.Spec PyProof.Rows L2
/-- goes on, with what is known then -/
def Ex (l : LS) (ρ : Ev) (S : Sto) (Q : Ev → Sto → Prop) : Prop := ∃ ρ' S', l ρ S = .ok (.nx ρ') S' ∧ Q ρ' S'
theorem Ex.nx {l : LS} {ρ ρ' : Ev} {S S' : Sto} {Q : Ev → Sto → Prop} (h : l ρ S = .ok (.nx ρ') S') (q : Q ρ' S') : Ex l ρ S Q := ⟨ρ', S', h, q⟩
theorem Ex.seqn {l1 l2 : LS} {ρ ρ1 : Ev} {S S1 : Sto} {Q : Ev → Sto → Prop} (h : l1 ρ S = .ok (.nx ρ1) S1) (h2 : Ex l2 ρ1 S1 Q) : Ex (lSeq l1 l2) ρ S Q := by
  obtain ⟨ρ', S', e, q⟩ := h2
  exact ⟨ρ', S', seq_nx h e, q⟩
theorem Ex.seq {l1 l2 : LS} {ρ : Ev} {S : Sto} {M Q : Ev → Sto → Prop} (h : Ex l1 ρ S M) (h2 : ∀ ρ1 S1, M ρ1 S1 → Ex l2 ρ1 S1 Q) : Ex (lSeq l1 l2) ρ S Q := by
  obtain ⟨ρ', S', e, q⟩ := h
  exact .seqn e (h2 _ _ q)
theorem Ex.tt {tc : LT} {l1 l2 : LS} {ρ : Ev} {S S1 : Sto} {Q : Ev → Sto → Prop} (h : tc ρ S = .ok true S1) (h2 : Ex l1 ρ S1 Q) : Ex (lIfS tc l1 l2) ρ S Q := by
  obtain ⟨ρ', S', e, q⟩ := h2
  exact ⟨ρ', S', if_tt h e, q⟩
theorem Ex.ht {g : GT} {lb : LS} {d : D} {ρ ρ2 : Ev} {S : Sto} (h : g d ρ = some ρ2) (h2 : Ex lb ρ2 S fun ρ' _ => wk ρ ρ' = ρ) : ∃ ρ2 ρ' S', g d ρ = some ρ2 ∧ lb ρ2 S = .ok (.nx ρ') S' ∧ wk ρ ρ' = ρ := by
  obtain ⟨ρ', S', e, q⟩ := h2
  exact ⟨_, _, _, h, e, q⟩
end MP

/-! `told(lambda: e)`: a lambda without parameters, handed to a def that calls it -/
namespace MP
open PySem PySem.Spec PyProof.Rows L2 LamX
/-- what the def that got the lambda tells by calling it: the lambda's slots stand in the store beside the table -/
noncomputable def lAct (j : Nat) (q : Str) (f c : Addr) (σ : L2.St) (lE : LE) : LE := fun ρZ SZ => match SZ[j]? with
  | some (.tab _ q2 (some (f2, c2, σ2, ρ))) => @ite _ (ρZ[0]? = some (some (.fn (some f))) ∧ q2 = q ∧ f2 = f ∧ c2 = c ∧ σ2 = σ) (Classical.propDecidable _) (lE ρ SZ) .bad
  | _ => .bad
theorem SR.get {K : PySem.W.Frag} {m : List Addr} {H : Hp} {S : Sto} (x : SR K m H S) {j : Nat} {o : O} (h : S[j]? = some o) : ∃ a, m[j]? = some a ∧ OR K m H a o := by
  have hj := (List.getElem?_eq_some_iff.mp h).1
  have hl : j < m.length := x.len ▸ hj
  have hm : m[j]? = some m[j] := List.getElem?_eq_getElem hl
  exact ⟨_, hm, x.at_ j _ o hm h⟩
section
variable {X : Cx} {pins : List (Addr × Obj)} {σ : L2.St} {m : List Addr} {S : Sto} {H HZ : Hp} {s s1 : Shared}
end
end MP

/-! the lambda made, where the table stands in the store; told(lambda: e) -/
namespace MP
open PySem PySem.Spec PyProof.Rows L2 LamX
section
variable {X : Cx} {pins : List (Addr × Obj)} {σ : L2.St} {m : List Addr} {S : Sto} {H : Hp} {s : Shared}
theorem TabM.snoc {P c : Addr} {q : Str} {ps : Array Value} {pos : Pos} (hP : H P = some (.tbl ps)) (ht : TriplesOk ps.toList) (ha : ∀ (p : Pos) (cv : Value), codeAmong p ps.toList = some cv → ∃ c, cv = .ref c ∧ c ∉ m ∧ H c = some (CodeO c q)) (nC : H c = none) (cm : c ∉ m) :
    TabM m (upd (upd H P (.tbl (ps ++ #[rawInt pos.line, rawInt pos.col, .ref c]))) c (CodeO c q)) P q := by
  have nPc : P ≠ c := ne_of_none hP nC
  have eL : (ps ++ #[rawInt pos.line, rawInt pos.col, .ref c]).toList = ps.toList ++ [rawInt pos.line, rawInt pos.col, .ref c] := by simp
  refine ⟨_, by rw [upd_ne nPc, upd_same], by rw [eL]; exact PySem.TriplesOk_snoc _ _ _ _ ht, fun p cv hcv => ?_⟩
  rw [eL] at hcv
  rcases among_app _ ht hcv with z | z
  · obtain ⟨c0, e1, e2, e3⟩ := ha p cv z
    refine ⟨c0, e1, e2, ?_⟩
    have n1 : c0 ≠ c := ne_of_none e3 nC
    have n2 : c0 ≠ P := fun y => by
      rw [y, hP] at e3
      exact codeO_ne ps (Option.some.inj e3).symm
    rw [upd_ne n1, upd_ne n2]
    exact e3
  · exact ⟨c, z, cm, upd_same⟩
end
/-- what told(lambda: e) is worth: where the def that gets the lambda leaves the store as it was -/
noncomputable def lTold (j : Nat) (P : Addr) (q : Str) (n : Nat) (lb : LE → LS) (lE : LE) : LE := fun ρ S =>
  match Classical.propDecidable (S[j]? = some (.tab P q none) ∧ ∃ d, ∀ (f c : Addr) (σ : L2.St), bodyF n (lb (lAct j q f c σ lE)) [.fn (some f)] (S.set j (.tab P q (some (f, c, σ, ρ)))) = .ok d (S.set j (.tab P q (some (f, c, σ, ρ))))) with
  | .isTrue h => .ok h.2.choose S
  | .isFalse _ => .bad
section
variable {X : Cx}
end
end MP

/-! the end of a walk with the guards: the lines of L2.law_call and L2.walk_ofB over MP.FnOk -/
namespace MP
open PySem PySem.Spec PyProof.Rows L2
theorem law_callG {P : Program} {w : World} {K : PySem.W.Frag} {mg mb : Str → Option Value} {CX : CXT} {k : Nat} {fa a : Addr} {fd : FuncData} {x : Str} {sp : Sp} {s₁ : Shared} {vs : List Value} {ns : List Int}
    (KX : K.In s₁.heap) (hns : s₁.heap.Ns mainGlobals mg) (hb : s₁.heap.Ns builtinsNs mb) (hbb : ∀ x : Str, x ≠ "__name__" → mb x = bootBuiltins x) (hlim : s₁.heap.NoLimit) (hg : s₁.gens = #[])
    (ha : s₁.heap.get? a = some { cls := .type "list", data := .seq vs.toArray }) (hi : IntsAre vs ns) (hl : ns.length ≤ sizeLine) (hr : MP.Room k callerA)
    (F : ∀ base : Heap, K.In base → base.Ns mainGlobals mg → MP.FnOk P w K mg base CX k fa fd [x] sp) (hbind : ∀ (s : Shared) (u : Value), BindsTo s fd ⟨[u], []⟩ [(x, u)])
    (hsp : ∀ H : Hp, Only H → SqL K H a (ns.map V.int) → sp [.ref a] H (fun v _ => v = .bl true) fun _ _ _ => False)
    (hCX : ∀ H e s', CX [] H s₁ (fun _ _ _ => False) e s' → False) :
    codeAny (model P w) callerA (.call (.ref fa) ⟨[.ref a], []⟩) (fun r s' => r = .ok (.ret (.bool true)) ∧ OldK s₁.heap s'.heap ∧ s'.os = s₁.os ∧ AllBare s'.gens) s₁ := by
  have rv := vals_ints hi
  have lenV := hi.length
  -- from an abstract heap in which nothing but the script may be tracked
  have core : ∀ H : Hp, Only H → SqL K H a (ns.map V.int) → HOk P w H s₁.heap → (∀ b, H b ≠ none → b = a) → (H a ≠ none → K.lookup a = none) →
      codeAny (model P w) callerA (.call (.ref fa) ⟨[.ref a], []⟩) (fun r s' => r = .ok (.ret (.bool true)) ∧ OldK s₁.heap s'.heap ∧ s'.os = s₁.os ∧ AllBare s'.gens) s₁ := by
    intro H hO hS hok hA hK
    have base_of : ∀ {b : Addr} {o : Obj}, s₁.heap.get? b = some o → H b = none → (hidT s₁.heap H).get? b = some o := fun e n => hidT_get e n
    have noA : ∀ {b : Addr} {o : Obj} {es : Array DictEntry} {ep : Nat}, s₁.heap.get? b = some o → o.data = .dict es ep → H b = none := fun {b o es ep} e d => by
      cases q : H b with
      | none => rfl
      | some u =>
        have e' : b = a := hA b (by rw [q]; simp)
        subst e'
        rw [ha] at e; cases e
        have d' : Data.seq vs.toArray _ = Data.dict es ep := d
        cases d'
    have nsK : ∀ {b : Addr} {m : Str → Option Value}, s₁.heap.Ns b m → (hidT s₁.heap H).Ns b m := fun {b m} ⟨o, es, ep, e, d, r⟩ => ⟨o, es, ep, base_of e (noA e d), d, r⟩
    have hKb : K.In (hidT s₁.heap H) := fun b o e => base_of (KX b o e) (by
      cases q : H b with
      | none => rfl
      | some u =>
        have e' : b = a := hA b (by rw [q]; simp)
        subst e'
        rw [hK (by rw [q]; simp)] at e; cases e)
    have hM : Mod K mg (hidT s₁.heap H) := ⟨hKb, nsK hns, ⟨mb, nsK hb, hbb⟩, let ⟨mc, h1, h2⟩ := hlim; ⟨mc, nsK h1, h2⟩⟩
    have e0 : Env0 P w K mg (hidT s₁.heap H) callerA [] s₁ H := ⟨rfl, hM, fun b o e => of_hidT e, Nat.le_of_eq (hidT_size _ _), trivial, fun b hb => absurd (show b ∈ ([] : List Addr) from hb) (by simp), hok, .of_eq hg⟩
    refine codeAny_mono ((F _ hKb (nsK hns)).run callerA [] s₁ H ⟨[.ref a], []⟩ [.ref a] [.ref a] _ _ hr e0 (hbind s₁ (.ref a)) (.cons rfl .nil) (hsp H hO hS)) fun r s' h => ?_
    cases r with
    | error e => exact (hCX H e s' h).elim
    | ok fl =>
      cases fl with
      | next => exact False.elim h
      | brk => exact False.elim h
      | cont => exact False.elim h
      | ret u =>
        obtain ⟨v, H', os, bare, un, hok', r', q⟩ := h
        have q' : v = .bl true := q
        subst q'
        obtain rfl : u = Value.bool true := r'
        refine ⟨rfl, OldK.of_keep fun b o e => ?_, os, bare⟩
        cases q : H b with
        | none => exact un.keep b o e q (by intro z; exact absurd (show b ∈ ([] : List Addr) from z) (by simp)) (by simp)
        | some u =>
          rcases hO b with z | ⟨ob, xs, z⟩
          · rw [q] at z; cases z
          · have z2 := un.frzs b ob _ z
            obtain ⟨e1, _⟩ := hok b _ z
            obtain ⟨e2, _⟩ := hok' b _ z2
            rw [e] at e1; cases e1
            exact e2
  cases hk : K.lookup a with
  | some o =>
    -- the script is one of the module's own objects
    have e := KX a o hk
    rw [ha] at e
    cases e
    refine core (fun _ => none) (fun _ => .inl rfl) (.inr ⟨_, vs.toArray, _, hk, rfl, rfl, rfl, by rw [List.size_toArray, lenV]; exact hl, by simpa using rv⟩) (fun b u z => by have z' : (none : Option HO) = some u := z; cases z') (fun b z => absurd rfl z) fun z => absurd rfl z
  | none =>
    refine core (fun b => if b = a then some (.frz { cls := .type "list", data := .seq vs.toArray } (.lst (ns.map V.int))) else none) (fun b => ?_) (.inl (.inr ⟨{ cls := .type "list", data := .seq vs.toArray }, if_pos rfl⟩)) (fun b u z => ?_) (fun b z => ?_) fun _ => hk
    · by_cases hb : b = a
      · exact .inr ⟨_, _, if_pos hb⟩
      · exact .inl (if_neg hb)
    · by_cases hb : b = a
      · have z' := (if_pos hb).symm.trans z
        cases z'
        subst hb
        exact ⟨ha, by rw [List.length_map]; exact hl, vs, _, rv, ha⟩
      · have z' := (if_neg hb).symm.trans z
        cases z'
    · by_cases hb : b = a
      · exact hb
      · exact absurd (if_neg hb) z
theorem walk_ofG {l : PySem.W.OpenLaw} {n k : Nat} {q : Program} {loose : List Str} {XP : (Str → Option Value) → Heap → Prop} {YP : World → Heap → Prop} {d : DefRec} {K : Params → PySem.W.Frag} {CX : World → CXT} {sp : World → Sp} {x : Str}
    (hn : l.most = some n) (hn2 : n ≤ sizeLine) (hdf : d.params.defaults = []) (hr : MP.Room k callerA)
    (hY : ∀ (w : World) (h : Heap), YP w h → (K w.params).In h)
    (F : ∀ (w : World) (mg : Str → Option Value) (fa : Addr) (h : Heap), (K w.params).In h → h.Ns mainGlobals mg → mg d.name = some (.ref fa) →
      ∃ fd : FuncData, (∀ (s : Shared) (u : Value), BindsTo s fd ⟨[u], []⟩ [(x, u)]) ∧
        ∀ base : Heap, (K w.params).In base → base.Ns mainGlobals mg → MP.FnOk l.prog w (K w.params) mg base (CX w) k fa fd [x] (sp w))
    (hsp : ∀ (w : World) (H : Hp) (a : Addr) (ns : List Int), ns.length ≤ n → (∀ z ∈ ns, Builtin.Int.intBits z ≤ 1048576) → Only H → SqL (K w.params) H a (ns.map V.int) → sp w [.ref a] H (fun v _ => v = .bl true) fun _ _ _ => False)
    (hCX : ∀ (w : World) (H : Hp) (s : Shared) (e : Value) (s' : Shared), CX w [] H s (fun _ _ _ => False) e s' → False) :
    PySem.W.WalkO q loose XP YP l.row.toRowW d [] (fun f vs => PySem.call f vs) := by
  refine Att.attach_callB hn hdf fun w s₀ s₁ mg mb fa o pm cd doc a vs ns G Y ho hd hcd hmg hobj hints hlen hbits hg => ?_
  have KX := hY w _ Y
  obtain ⟨fd, hb, hF⟩ := F w mg fa _ KX G.T.g hmg
  exact law_callG KX G.T.g G.T.b G.T.builtins G.T.nolimit hg hobj hints (Nat.le_trans hlen hn2) hr hF hb (fun H hO hS => hsp w H a ns hlen hbits hO hS) fun H e s' => hCX w H s₁ e s'
theorem room_caller {k : Nat} (h : L2.Room k callerA) : MP.Room k callerA := ⟨h, rfl⟩
end MP

/-! defs as values, called by a local name; a def whose code object is known; the end with a table -/
namespace MP
open PySem PySem.Spec PyProof.Rows L2 LamX
section
variable {X : Cx} {e : Expr} {es : List Expr} {t : LA} {x : Str} {px cpos pos : Pos} {k n i : Nat}
structure SelsV (P : Program) (w : World) (K : PySem.W.Frag) (mg : Str → Option Value) (base : Heap) (k n : Nat) (sel : Addr → Option F) : Prop where
  to : ∀ f g, sel f = some g → ∃ (fd : FuncData) (ps : List Str), ps.length = n ∧ FnL P w K mg base k f fd ps g ∧ PySem.W.keepIn K (.ref f) = true ∧ Binds K fd ps []
def lCallV (i n : Nat) (sel : Addr → Option F) (t : LA) : LE := fun ρ S => match ρ[i]? with
  | some (some (.fn (some f))) => match sel f with
    | some g => lCall n g [] t ρ S
    | none => .bad
  | _ => .bad
end
section
variable {P : Program} {w : World} {K : PySem.W.Frag} {mg : Str → Option Value} {base : Heap}
end
end MP

/-! the end of a walk with the guards, where the law makes lambdas: one table -/
namespace MP
open PySem PySem.Spec PyProof.Rows L2 LamX
/-- the abstract heap at the beginning: the table, and the script where it is no module's object -/
def hp0 (T : Addr) (sc : Option (Addr × Obj × List V)) : Hp := fun b => if b = T then some (.tbl #[]) else match sc with
  | some (a, o, xs) => if b = a then some (.frz o (.lst xs)) else none
  | none => none
/-- what is known of the law's promise at the head's heap h -/
def LawT1 (l : PySem.W.OpenLaw) (w : World) (K : PySem.W.Frag) (CX : CXT) (k n : Nat) (x : Str) (mg : Str → Option Value) (fa : Addr) (h : Heap) : Prop :=
  ∃ (fd : FuncData) (c T : Addr) (sp : Sp), h.get? T = some { cls := .none, data := .fields #[] } ∧ K.lookup T = none ∧ PySem.W.CodeHd h c T ∧ (∀ (s : Shared) (u : Value), BindsTo s fd ⟨[u], []⟩ [(x, u)]) ∧
    (∀ (H : Hp) (a : Addr) (ns : List Int), ns.length ≤ n → H T = some (.tbl #[]) → SqL K H a (ns.map V.int) → sp [.ref a] H (fun v _ => v = .bl true) fun _ _ _ => False) ∧
    ∀ base : Heap, K.In base → base.Ns mainGlobals mg → TabB base mg c T → MP.FnOk l.prog w K mg base CX k fa fd [x] sp
/-- the code object and the table of the def of that name, as the head's heap has them -/
structure TabF (K : PySem.W.Frag) (fa c T : Addr) (h : Heap) : Prop where
  em : h.get? T = some { cls := .none, data := .fields #[] }
  hd : PySem.W.CodeHd h c T
end MP

namespace MP
open PySem PySem.Spec PyProof.Rows L2
/-! ### dicts whose keys are nested tuples: how they stand -/
mutual
def nkOf : D → Option NestedKey
  | .non => some .none
  | .int i => some (.num i)
  | .str s => some (.text s)
  | .tup xs => (nksOf xs).map .tup
  | _ => none
def nksOf : List D → Option (List NestedKey)
  | [] => some []
  | x :: xs => (nkOf x).bind fun k => (nksOf xs).map fun ks => k :: ks
end
mutual
theorem nkOf_nD : ∀ k : NestedKey, nkOf (nD k) = some k
  | .none => rfl
  | .num _ => rfl
  | .text _ => rfl
  | .tup ks => by simp only [nD, nkOf, nksOf_nDs ks, Option.map_some]
theorem nksOf_nDs : ∀ ks : List NestedKey, nksOf (nDs ks) = some ks
  | [] => rfl
  | k :: ks => by simp only [nDs, nksOf, nkOf_nD k, nksOf_nDs ks, Option.map_some, Option.bind_some]
end
def isTupK : NestedKey → Bool
  | .tup _ => true
  | _ => false
/-- a key that may stand in such a dict -/
def keyN (d : D) : Option NestedKey := (nkOf d).bind fun k => if k.depth ≤ 8 ∧ isTupK k = true then some k else none
theorem keyN_nD {k : NestedKey} (h : k.depth ≤ 8) (ht : isTupK k = true) : keyN (nD k) = some k := by
  unfold keyN
  rw [nkOf_nD]
  exact if_pos ⟨h, ht⟩
def lookN : List (D × D) → NestedKey → Option D
  | [], _ => none
  | (x, d) :: r, k => if keyN x = some k then some d else lookN r k
def putN (kvs : List (D × D)) (k : NestedKey) (d : D) : List (D × D) := if (lookN kvs k).isSome = true then kvs.map (fun q => if keyN q.1 = some k then (q.1, d) else q) else kvs ++ [(nD k, d)]
def atV (vs : List (NestedKey × Addr × V)) (k : NestedKey) : Option (Addr × V) := (vs.find? fun x => decide (x.1 = k)).map (·.2)
def putV (vs : List (NestedKey × Addr × V)) (k : NestedKey) (b : Addr) (v : V) : List (NestedKey × Addr × V) := if (atV vs k).isSome then vs.map (fun x => if x.1 = k then (x.1, x.2.1, v) else x) else vs ++ [(k, b, v)]
section
variable {K : PySem.W.Frag} {m : List Addr} {H : Hp}
theorem VR.tupK {b : Addr} {k : NestedKey} (r : VR K m H (.ref b) (nD k)) : isTupK k = true := by
  cases k with
  | tup _ => rfl
  | none => exact nomatch r
  | num _ => exact nomatch r
  | text _ => exact nomatch r
theorem VDn.look {vs : List (NestedKey × Addr × V)} {ds : List (D × D)} (r : VDn K m H vs ds) (k : NestedKey) : (∀ d, lookN ds k = some d → ∃ b v, atV vs k = some (b, v) ∧ VR K m H v d) ∧ (lookN ds k = none → atV vs k = none) := by
  induction vs generalizing ds with
  | nil => cases r; exact ⟨fun d h => by simp [lookN] at h, fun _ => rfl⟩
  | cons p vs ih =>
    cases r with | @cons k' b v d _ ds hk hd h r =>
    have ih := ih r
    simp only [lookN]
    have e0 : keyN (nD k') = some k' := keyN_nD hd hk.tupK
    by_cases e : k' = k
    · rw [if_pos (by rw [e0, e])]
      have e1 : atV ((k', b, v) :: vs) k = some (b, v) := by unfold atV; rw [List.find?_cons_of_pos (by simp [e])]; rfl
      exact ⟨fun d' z => by cases z; exact ⟨b, v, e1, h⟩, fun z => by cases z⟩
    · rw [if_neg (by rw [e0]; intro z; exact e (Option.some.inj z))]
      have e1 : atV ((k', b, v) :: vs) k = atV vs k := by unfold atV; rw [List.find?_cons_of_neg (by simp [e])]
      rw [e1]
      exact ih
theorem VDn.some_iff {vs : List (NestedKey × Addr × V)} {ds : List (D × D)} (r : VDn K m H vs ds) (k : NestedKey) : (lookN ds k).isSome = (atV vs k).isSome := by
  obtain ⟨h1, h2⟩ := r.look k
  cases q : lookN ds k with
  | none => rw [h2 q]; rfl
  | some d => obtain ⟨b, v, e, _⟩ := h1 d q; rw [e]; rfl
theorem VDn.mapP {v : V} {d : D} (k : NestedKey) (h : VR K m H v d) {vs : List (NestedKey × Addr × V)} {ds : List (D × D)} (r : VDn K m H vs ds) : VDn K m H (vs.map fun x => if x.1 = k then (x.1, x.2.1, v) else x) (ds.map fun q => if keyN q.1 = some k then (q.1, d) else q) := by
  induction vs generalizing ds with
  | nil => cases r; exact .nil
  | cons p vs ih =>
    cases r with | @cons k' b v' d' _ ds hk hd h' r =>
    have ih := ih r
    have e0 : keyN (nD k') = some k' := keyN_nD hd hk.tupK
    simp only [List.map_cons]
    by_cases z : k' = k
    · rw [if_pos z, if_pos (by rw [e0, z])]; exact .cons hk hd h ih
    · rw [if_neg z, if_neg (by rw [e0]; intro y; exact z (Option.some.inj y))]; exact .cons hk hd h' ih
theorem VDn.append {vs ws : List (NestedKey × Addr × V)} {ds es : List (D × D)} (r : VDn K m H vs ds) (r2 : VDn K m H ws es) : VDn K m H (vs ++ ws) (ds ++ es) := by
  induction vs generalizing ds with
  | nil => cases r; exact r2
  | cons p vs ih =>
    cases r with | cons hk hd h r => exact .cons hk hd h (ih r)
theorem VDn.length {vs : List (NestedKey × Addr × V)} {ds : List (D × D)} (r : VDn K m H vs ds) : vs.length = ds.length := by
  induction vs generalizing ds with
  | nil => cases r; rfl
  | cons p vs ih =>
    cases r with | cons hk hd h r => simp [ih r]
theorem VDn.put {v : V} {d : D} {k : NestedKey} {b : Addr} (hk : VR K m H (.ref b) (nD k)) (hd : k.depth ≤ 8) (h : VR K m H v d) {vs : List (NestedKey × Addr × V)} {ds : List (D × D)} (r : VDn K m H vs ds) : VDn K m H (putV vs k b v) (putN ds k d) := by
  unfold putV putN
  rw [r.some_iff k]
  by_cases z : (atV vs k).isSome = true
  · rw [if_pos z, if_pos z]; exact r.mapP k h
  · rw [if_neg z, if_neg z]; exact r.append (.cons hk hd h .nil)
theorem VDn.keysR {vs : List (NestedKey × Addr × V)} {ds : List (D × D)} (r : VDn K m H vs ds) : VRs K m H (vs.map fun x => V.ref x.2.1) (ds.map (·.1)) := by
  induction vs generalizing ds with
  | nil => cases r; exact .nil
  | cons p vs ih =>
    cases r with | cons hk hd h r => exact .cons hk (ih r)
end
section
variable {X : Cx} {pins : List (Addr × Obj)} {σ : L2.St} {H : Hp} {s : Shared} {m : List Addr} {S : Sto}
end
end MP

namespace MP
open PySem PySem.Spec PyProof.Rows L2
open Classical in
/-- such a dict of this world -/
noncomputable def dcnOf (w : World) (d : D) : Option (List (D × D)) := match d with
  | .dcn w' kvs => if w' = w then some kvs else none
  | _ => none
open Classical in
noncomputable def dcnO (w : World) (o : Option O) : Option (List (D × D)) := match o with
  | some (.dcn w' kvs) => if w' = w then some kvs else none
  | _ => none
section
variable {X : Cx} {pins : List (Addr × Obj)} {σ : L2.St} {H : Hp} {s : Shared} {m : List Addr} {S : Sto}
/-- d[k] -/
noncomputable def gNix (w : World) : G2 := fun S x y => (dcnOf w (vw S x)).bind fun kvs => (keyN y).bind fun k => lookN kvs k
/-- k in d, k not in d -/
noncomputable def gNin (w : World) : G2 := fun S y x => (dcnOf w (vw S x)).bind fun kvs => (keyN y).map fun k => .bl (lookN kvs k).isSome
noncomputable def gNnotin (w : World) : G2 := fun S y x => (dcnOf w (vw S x)).bind fun kvs => (keyN y).map fun k => .bl (!(lookN kvs k).isSome)
/-- d[k] = v -/
noncomputable def stNset (w : World) (S : Sto) (r i d : D) : Option Sto := match r with
  | .ref j => (dcnO w S[j]?).bind fun kvs => if kvs.length < sizeLine then (keyN i).map fun k => S.set j (.dcn w (putN kvs k d)) else none
  | _ => none
/-- {} -/
def tDNewN (w : World) : TE := fun _ H Q => ∀ p, H p = none → Q (.ref p) (upd H p (ND w p []))
def lDcn (w : World) : LE := fun _ S => .ok (.dcn w []) S
def lDcnN (w : World) : LE := fun _ S => .ok (.ref S.length) (S ++ [.dcn w []])
/-- {x: v}, the key a variable, the value written out -/
def tDisp1N (w : World) (K : PySem.W.Frag) (tk : TE) (vc : V) : TE := fun σ H Q => ∀ p, H p = none → tk σ (upd H p (ND w p [])) fun x H1 => H1 p = some (ND w p []) ∧ ∃ (k : NestedKey) (b : Addr) (m : List Addr), x = .ref b ∧ k.depth ≤ 8 ∧ VR K m H1 (.ref b) (nD k) ∧ Q (.ref p) (upd H1 p (ND w p [(k, b, vc)]))
def lDisp1N (w : World) (i : Nat) (dv : D) : LE := fun ρ S => match ρ[i]? with
  | some (some d) => match keyN d with
    | some k => .ok (.ref S.length) (S ++ [.dcn w [(nD k, dv)]])
    | none => .bad
  | _ => .bad
end
end MP

namespace MP
open PySem PySem.Spec PyProof.Rows L2
/-! ### methods of such dicts -/
noncomputable def lBN (w : World) (g : GM) (lo : LE) (t : LA) : LE := fun ρ S => (lo ρ S).bind fun d S0 => if (dcnOf w (vw S0 d)).isSome = true then (t ρ S0).bind fun ds S1 => liftM (g S1 d ds) else .bad
section
variable {X : Cx}
/-- d.get(k, x) -/
noncomputable def stNget (w : World) : GM := fun S r ds => match ds with
  | [y, z] => (dcnOf w (vw S r)).bind fun kvs => (keyN y).map fun k => ((lookN kvs k).getD z, S)
  | _ => none
/-- d.setdefault(k, x) -/
noncomputable def stNsetd (w : World) : GM := fun S r ds => match r, ds with
  | .ref j, [y, z] => (dcnO w S[j]?).bind fun kvs => if kvs.length < sizeLine then (keyN y).map fun k => match lookN kvs k with
      | some d => (d, S)
      | none => (z, S.set j (.dcn w (putN kvs k z)))
    else none
  | _, _ => none
def mergeN (kvs more : List (D × D)) : List (D × D) := more.foldl (fun acc q => match keyN q.1 with
  | some k => putN acc k q.2
  | none => acc) kvs
def mergeV (vs more : List (NestedKey × Addr × V)) : List (NestedKey × Addr × V) := more.foldl (fun acc x => putV acc x.1 x.2.1 x.2.2) vs
/-- d.update(d2), d not empty -/
noncomputable def stNupd (w : World) : GM := fun S r ds => match r, ds with
  | .ref j, [.ref i] => (dcnO w S[j]?).bind fun kvs => (dcnO w S[i]?).bind fun more => if i ≠ j ∧ kvs ≠ [] ∧ kvs.length + more.length ≤ sizeLine then some (.non, S.set j (.dcn w (mergeN kvs more))) else none
  | _, _ => none
theorem dict_update_ty : typeOf (.builtin "dict.update") = (pure (.type "method_descriptor") : Sem Value) := PySem.F.type_dict_update
end
end MP

namespace MP
open PySem PySem.Spec PyProof.Rows L2
/-! ### the keys of such a dict; dict(pairs) -/
section
variable {X : Cx} {pins : List (Addr × Obj)} {σ : L2.St} {H : Hp} {s : Shared} {m : List Addr} {S : Sto}
/-- list(d) -/
noncomputable def gListN (w : World) : GC := fun S ds => match ds with
  | [d] => (dcnOf w (vw S d)).map fun kvs => .lst (kvs.map (·.1))
  | _ => none
/-- sorted(d) -/
noncomputable def gSortedN (w : World) : GC := fun S ds => match ds with
  | [d] => (dcnOf w (vw S d)).bind fun kvs => if srtOk (kvs.map (·.1)) = true then some (.lst ((kvs.map (·.1)).mergeSort leD)) else none
  | _ => none
end
end MP

namespace MP
open PySem PySem.Spec PyProof.Rows L2
/-! ### dict(pairs), the keys nested tuples; a key may come again -/
def kvsOfN : List D → Option (List (D × D))
  | [] => some []
  | x :: xs => match x with
    | .tup [a, b] => if (keyN a).isSome = true then (kvsOfN xs).map fun r => (a, b) :: r else none
    | _ => none
section
variable {X : Cx}
noncomputable def gDictN (w : World) : GC := fun _ ds => match ds with
  | [.lst xs] => (kvsOfN xs).bind fun kvs => if kvs.length ≤ 100000 then some (.dcn w (mergeN [] kvs)) else none
  | _ => none
end
end MP

namespace MP
open PySem PySem.Spec PyProof.Rows L2
/-! ### xs.insert(0, y) -/
section
variable {X : Cx}
def stIns0 : GM := fun S r ds => match r, ds with
  | .ref j, [.int 0, y] => match S[j]? with
    | some (.lst xs) => if xs.length < sizeLine then some (.non, S.set j (.lst (y :: xs))) else none
    | _ => none
  | _, _ => none
/-! ### the world named -/
variable {w : World}
end
end MP

namespace MP
open PySem PySem.Spec PyProof.Rows L2
/-! ### a dict that nobody changes any more: walked by its keys -/
section
variable {X : Cx}
def gDictKF : GC := fun S ds => match ds with
  | [.lst xs] => (kvsOf xs).bind fun kvs => if (keysK kvs).Nodup ∧ kvs.length ≤ 100000 then some (.fdct kvs) else none
  | _ => none
def gDixF : G2 := fun _ x y => match x with
  | .fdct kvs => (kOf false y).bind fun ks => lookD false kvs ks
  | _ => none
/-- walked by its keys -/
def lKeysF (l : LE) : LI := fun ρ S => (l ρ S).bind fun d S1 => match d with
  | .fdct kvs => .ok ⟨kvs.map (·.1), fun _ => True⟩ S1
  | _ => .bad
end
end MP

/-! the tables of sets of up to 1228 things: the round of their steps, laying them anew -/
namespace MP
open PySem PySem.Spec PyProof.Rows L2
/-- the places that n steps from x meet, as bits; each number is made a figure on the way -/
def trail (m : Nat) : Nat → Nat → Nat → Nat
  | 0, _, acc => acc
  | n + 1, x, acc =>
    match x, acc with
    | 0, 0 => trail m n 1 1
    | 0, a + 1 => trail m n 1 ((a + 1) ||| 1)
    | y + 1, 0 => trail m n (((y + 1) * 5 + 1) % (m + 1)) (1 <<< (y + 1))
    | y + 1, a + 1 => trail m n (((y + 1) * 5 + 1) % (m + 1)) ((a + 1) ||| (1 <<< (y + 1)))
theorem trail_succ {m : Nat} (hm : 0 < m) (n x acc : Nat) : trail m (n + 1) x acc = trail m n ((x * 5 + 1) % (m + 1)) (acc ||| (1 <<< x)) := by
  have one : (0 * 5 + 1) % (m + 1) = 1 := Nat.mod_eq_of_lt (by omega)
  cases x with
  | zero =>
    rw [one]
    cases acc with
    | zero => rfl
    | succ a => rfl
  | succ y =>
    cases acc with
    | zero =>
      rw [Nat.zero_or]
      rfl
    | succ a => rfl
theorem lcgI_front (m : Nat) (x : Nat) : ∀ k, lcgI m x (k + 1) = lcgI m ((x * 5 + 1) % (m + 1)) k
  | 0 => rfl
  | k + 1 => congrArg (fun y => (y * 5 + 1) % (m + 1)) (lcgI_front m x k)
theorem lcgI_plus (m x a : Nat) : ∀ k, lcgI m (lcgI m x a) k = lcgI m x (a + k)
  | 0 => rfl
  | k + 1 => congrArg (fun y => (y * 5 + 1) % (m + 1)) (lcgI_plus m x a k)
theorem trail_bit {m : Nat} (hm : 0 < m) : ∀ (n x acc j : Nat), (trail m n x acc).testBit j = true → acc.testBit j = true ∨ ∃ k, k < n ∧ lcgI m x k = j
  | 0, _, _, _, h => .inl h
  | n + 1, x, acc, j, h => by
    rw [trail_succ hm] at h
    rcases trail_bit hm n _ _ j h with h | ⟨k, hk, e⟩
    · rw [Nat.testBit_or, Bool.or_eq_true] at h
      rcases h with h | h
      · exact .inl h
      · refine .inr ⟨0, Nat.succ_pos n, ?_⟩
        rw [Nat.testBit_shiftLeft, Bool.and_eq_true, decide_eq_true_eq] at h
        have h0 : j - x = 0 := by
          have := h.2
          rw [show (1 : Nat) = 2 ^ 1 - 1 from rfl, Nat.testBit_two_pow_sub_one, decide_eq_true_eq] at this
          omega
        show x = j
        omega
    · exact .inr ⟨k + 1, Nat.succ_lt_succ hk, (lcgI_front m x k).trans e⟩
/-- from nought each place is met, and nought again -/
structure Cyc (m : Nat) : Prop where
  all : ∀ j, j ≤ m → ∃ k, k ≤ m ∧ lcgI m 0 k = j
  back : lcgI m 0 (m + 1) = 0
  odd : m % 2 = 1
  lo : 7 ≤ m
  hi : m ≤ 2047
def home (m : Nat) : Nat → Nat → Bool
  | 0, x => x == 0
  | n + 1, x =>
    match x with
    | 0 => home m n (1 % (m + 1))
    | y + 1 => home m n (((y + 1) * 5 + 1) % (m + 1))
theorem home_is (m : Nat) : ∀ n x, home m n x = true → lcgI m x n = 0
  | 0, x, h => by
    unfold home at h
    exact beq_iff_eq.mp h
  | n + 1, x, h => by
    rw [lcgI_front]
    refine home_is m n _ ?_
    cases x with
    | zero => exact h
    | succ y => exact h
theorem Cyc.of {m : Nat} (h1 : trail m (m + 1) 0 0 = 2 ^ (m + 1) - 1) (h2 : home m (m + 1) 0 = true) (h3 : m % 2 = 1) (h4 : 7 ≤ m) (h5 : m ≤ 2047) : Cyc m where
  all := fun j hj => by
    have b : (trail m (m + 1) 0 0).testBit j = true := by
      rw [h1, Nat.testBit_two_pow_sub_one, decide_eq_true_eq]
      omega
    rcases trail_bit (by omega) _ _ _ j b with b | ⟨k, hk, e⟩
    · rw [Nat.zero_testBit] at b
      cases b
    · exact ⟨k, Nat.le_of_lt_succ hk, e⟩
  back := home_is m _ _ h2
  odd := h3
  lo := h4
  hi := h5
section
variable {m : Nat}
theorem Cyc.again (C : Cyc m) (k : Nat) : lcgI m 0 (m + 1 + k) = lcgI m 0 k := by
  rw [← lcgI_plus, C.back]
theorem Cyc.hit (C : Cyc m) {i j : Nat} (hi : i ≤ m) (hj : j ≤ m) : ∃ k, k ≤ m ∧ lcgI m i k = j := by
  obtain ⟨a, ha, rfl⟩ := C.all i hi
  obtain ⟨b, hb, rfl⟩ := C.all j hj
  by_cases c : a ≤ b
  · exact ⟨b - a, by omega, by rw [lcgI_plus, show a + (b - a) = b by omega]⟩
  · exact ⟨m + 1 + b - a, by omega, by rw [lcgI_plus, show a + (m + 1 + b - a) = m + 1 + b by omega, C.again]⟩
/-- a run begins there within m + 12 runs -/
theorem Cyc.run (C : Cyc m) (h : Int) {j : Nat} (hj : j ≤ m) : ∃ n, n ≤ 12 + m ∧ runI m (SetTable.bits h) n = j :=
  let ⟨k, hk, e⟩ := C.hit (runI_le m (SetTable.bits h) 12) hj
  ⟨12 + k, Nat.add_le_add_left hk 12, (runI_tail (bits_lt h) k).trans e⟩
/-- a search meets it in time -/
theorem Cyc.way (C : Cyc m) (h : Int) {j : Nat} (hj : j ≤ m) : ∃ k, k < 10 * SetTable.turns m ∧ L2.way m h k = j := by
  obtain ⟨n, hn, rfl⟩ := C.run h hj
  obtain ⟨k, hk, e⟩ := run_nth m (SetTable.bits h) n
  exact ⟨k, by unfold SetTable.turns; omega, congrArg SetTable.Probe.j e⟩
theorem way_in (m : Nat) (h : Int) (k : Nat) : L2.way m h k ≤ m := by
  have st : SetTable.bits h % (m + 1) ≤ m := Nat.le_of_lt_succ (Nat.mod_lt _ (Nat.succ_pos m))
  have q := nth_in (m := m) k (runAt m (SetTable.bits h % (m + 1)) (SetTable.bits h)) (by
    have := runEnd_bd st
    show SetTable.bits h % (m + 1) + (SetTable.runEnd m (SetTable.bits h % (m + 1)) - SetTable.bits h % (m + 1)) ≤ _
    omega)
  exact Nat.le_trans (Nat.le_add_right _ _) q
/-- the first place on the way that is not among fewer than all -/
theorem Cyc.free (C : Cyc m) {ps : List Nat} (hl : ps.length ≤ m) (h : Int) : ∃ K, K < 10 * SetTable.turns m ∧ L2.way m h K ∉ ps ∧ ∀ k, k < K → L2.way m h k ∈ ps := by
  obtain ⟨j, hj, hn⟩ := st_missing ps (m + 1) (Nat.lt_succ_of_le hl)
  obtain ⟨k, hk, e⟩ := C.way h (Nat.le_of_lt_succ hj)
  obtain ⟨K, a, b, c⟩ := st_least (p := fun k => L2.way m h k ∉ ps) k (by rw [e]; exact hn)
  exact ⟨K, Nat.lt_of_le_of_lt a hk, b, fun k' hk' => Classical.not_not.mp (c k' hk')⟩
/-- the way of the hash h ends at j, all places ahead of it being among ps -/
def Reach (m : Nat) (ps : List Nat) (h : Int) (j : Nat) : Prop := ∃ K, L2.way m h K = j ∧ ∀ k, k < K → L2.way m h k ∈ ps
theorem Reach.more {ps qs : List Nat} {h : Int} {j : Nat} (r : Reach m ps h j) (s : ∀ x ∈ ps, x ∈ qs) : Reach m qs h j :=
  let ⟨K, e, a⟩ := r
  ⟨K, e, fun k hk => s _ (a k hk)⟩
/-- what stands on the way stands ahead of the first free place -/
theorem Reach.ahead {ps : List Nat} {h : Int} {j K : Nat} (r : Reach m ps h j) (hj : j ∈ ps) (free : L2.way m h K ∉ ps) : ∃ k, k < K ∧ L2.way m h k = j := by
  obtain ⟨k, e, a⟩ := r
  refine ⟨k, Nat.lt_of_not_le fun z => ?_, e⟩
  rcases Nat.lt_or_eq_of_le z with y | y
  · exact free (a K y)
  · rw [y, e] at free
    exact free hj
/-! ### the table laid anew -/
/-- behind the hashes hs: who sits where; qs: the places, in the order of the hashes -/
structure Lay (m : Nat) (qs : List (Nat × Int)) (owner : Array (Option Nat)) : Prop where
  sz : owner.size = m + 1
  who : ∀ j k, j ≤ m → (oAt owner j = some k ↔ (qs.map (·.1))[k]? = some j)
  nd : (qs.map (·.1)).Nodup
  inn : ∀ q ∈ qs, q.1 ≤ m
  rch : ∀ q ∈ qs, Reach m (qs.map (·.1)) q.2 q.1
theorem Lay.start (m : Nat) : Lay m [] (Array.replicate (m + 1) none) where
  sz := Array.size_replicate
  who := fun j k hj => by
    rw [oAt_init hj]
    exact ⟨(fun z => nomatch z), (fun z => nomatch z)⟩
  nd := .nil
  inn := fun q hq => nomatch hq
  rch := fun q hq => nomatch hq
theorem Lay.none_iff {qs : List (Nat × Int)} {owner : Array (Option Nat)} (Y : Lay m qs owner) {j : Nat} (hj : j ≤ m) : oAt owner j = none ↔ j ∉ qs.map (·.1) := by
  cases z : oAt owner j with
  | some k =>
    refine ⟨(fun y => nomatch y), fun y => absurd ?_ y⟩
    exact List.mem_of_getElem? ((Y.who j k hj).mp z)
  | none =>
    refine ⟨fun _ y => ?_, fun _ => rfl⟩
    obtain ⟨k, hk⟩ := List.mem_iff_getElem?.mp y
    have := (Y.who j k hj).mpr hk
    rw [z] at this
    cases this
theorem Lay.step (C : Cyc m) {qs : List (Nat × Int)} {owner : Array (Option Nat)} (Y : Lay m qs owner) (hl : qs.length ≤ m) (h : Int) :
    ∃ j, SetTable.layClean.free m owner (SetTable.turns m) (SetTable.bits h % (m + 1)) (SetTable.bits h) = some j ∧ Lay m (qs ++ [(j, h)]) (owner.setIfInBounds j (some qs.length)) := by
  have lens : (qs.map (·.1)).length = qs.length := List.length_map ..
  obtain ⟨j0, hj0, free0⟩ := st_missing (qs.map (·.1)) (m + 1) (by rw [lens]; exact Nat.lt_succ_of_le hl)
  obtain ⟨n, hn, hr⟩ := C.run h (Nat.le_of_lt_succ hj0)
  -- the n-th run's first place is free
  have at0 : L2.way m h (off m (SetTable.bits h % (m + 1)) (SetTable.bits h) n) = j0 := by
    have e := nth_off m n (SetTable.bits h % (m + 1)) (SetTable.bits h)
    rw [itL_run] at e
    exact (congrArg SetTable.Probe.j e).trans hr
  obtain ⟨K, k1, k2, k3⟩ := st_least (p := fun k => L2.way m h k ∉ qs.map (·.1)) _ (show L2.way m h (off m (SetTable.bits h % (m + 1)) (SetTable.bits h) n) ∉ _ by rw [at0]; exact free0)
  have k4 : ∀ k, k < K → L2.way m h k ∈ qs.map (·.1) := fun k hk => Classical.not_not.mp (k3 k hk)
  have isn : ∀ k, (oAt owner (L2.way m h k)).isNone = true ↔ L2.way m h k ∉ qs.map (·.1) := fun k => by
    rw [Option.isNone_iff_eq_none, Y.none_iff (way_in m h k)]
  have found := free_spec m owner (SetTable.turns m) n (SetTable.bits h % (m + 1)) (SetTable.bits h) K (by unfold SetTable.turns; omega) k1
    (fun k hk => by
      cases z : (oAt owner (L2.way m h k)).isNone with
      | false => rfl
      | true => exact absurd (k4 k hk) ((isn k).mp z))
    ((isn K).mpr k2)
  refine ⟨L2.way m h K, found, ?_⟩
  have jm := way_in m h K
  have js : L2.way m h K < owner.size := by rw [Y.sz]; omega
  generalize hj : L2.way m h K = j at k2 jm js ⊢
  have em : (qs ++ [(j, h)]).map (·.1) = qs.map (·.1) ++ [j] := by rw [List.map_append]; rfl
  have grow : ∀ x ∈ qs.map (·.1), x ∈ (qs ++ [(j, h)]).map (·.1) := fun x hx => by
    rw [em]
    exact List.mem_append_left _ hx
  refine ⟨by rw [Array.size_setIfInBounds, Y.sz], fun i k hi => ?_, ?_, fun q hq => ?_, fun q hq => ?_⟩
  · rw [em]
    by_cases c : i = j
    · subst c
      rw [oAt_set_self _ js]
      constructor
      · intro z
        cases z
        rw [List.getElem?_append_right (by rw [lens]; exact Nat.le_refl _), lens, Nat.sub_self]
        rfl
      · intro z
        rcases Nat.lt_trichotomy k qs.length with y | y | y
        · rw [List.getElem?_append_left (by rw [lens]; exact y)] at z
          exact absurd (List.mem_of_getElem? z) k2
        · rw [y]
        · rw [List.getElem?_eq_none (by rw [List.length_append, lens]; exact y)] at z
          cases z
    · rw [oAt_set_ne _ c, Y.who i k hi]
      constructor
      · intro z
        rw [List.getElem?_append_left (List.getElem?_eq_some_iff.mp z).1]
        exact z
      · intro z
        by_cases y : k < qs.length
        · rwa [List.getElem?_append_left (by rw [lens]; exact y)] at z
        · rw [List.getElem?_append_right (by rw [lens]; omega), lens] at z
          rcases List.getElem?_eq_some_iff.mp z with ⟨y1, y2⟩
          have y3 : k - qs.length = 0 := by
            have : k - qs.length < 1 := y1
            omega
          simp only [y3] at y2
          exact absurd y2.symm c
  · rw [em]
    exact List.nodup_append.mpr ⟨Y.nd, List.nodup_cons.mpr ⟨List.not_mem_nil, .nil⟩, fun a ha b hb e => k2 (by rw [List.mem_singleton.mp hb] at e; rw [← e]; exact ha)⟩
  · rcases List.mem_append.mp hq with hq | hq
    · exact Y.inn q hq
    · rw [List.mem_singleton.mp hq]
      exact jm
  · rcases List.mem_append.mp hq with hq | hq
    · exact (Y.rch q hq).more grow
    · rw [List.mem_singleton.mp hq]
      exact Reach.more ⟨K, hj, k4⟩ grow
theorem Lay.run (C : Cyc m) : ∀ (rest : List Int) (qs : List (Nat × Int)) (owner : Array (Option Nat)), Lay m qs owner → qs.length + rest.length ≤ m →
    ∃ qs' owner', rest.foldl (stepF m) (some (owner, qs.length)) = some (owner', qs'.length) ∧ Lay m qs' owner' ∧ qs'.map (·.2) = qs.map (·.2) ++ rest
  | [], qs, owner, Y, _ => ⟨qs, owner, rfl, Y, (List.append_nil _).symm⟩
  | h :: rest, qs, owner, Y, hl => by
    obtain ⟨j, e, Y1⟩ := Y.step C (Nat.le_trans (Nat.le_add_right _ _) hl) h
    have len : (qs ++ [(j, h)]).length = qs.length + 1 := by rw [List.length_append]; rfl
    obtain ⟨qs', owner', f, Y2, g⟩ := Lay.run C rest _ _ Y1 (by rw [len]; rw [List.length_cons] at hl; omega)
    refine ⟨qs', owner', ?_, Y2, ?_⟩
    · rw [List.foldl_cons, stepF_some e, ← len]
      exact f
    · rw [g, List.map_append, List.append_assoc]
      rfl
end
end MP

/-! sets of nested tuples: the search -/
namespace MP
open PySem PySem.Spec PyProof.Rows L2
abbrev hN (w : World) (k : NestedKey) : Int := k.hash w
/-- a tuple in the heap, to depth 8 -/
def NuK (h : Heap) (k : NestedKey) (a : Addr) : Prop := NestedIs h k (.ref a) ∧ k.depth ≤ 8
section
variable {P : Program} {w : World} {A : Around} {E : Value → Shared → Prop} {s : Shared}
theorem NuK.ty {k : NestedKey} {a : Addr} (q : NuK s.heap k a) : s.TypeIs (.ref a) "tuple" := by
  cases q.1 with
  | tup ho hc _ _ => exact ⟨_, ho, hc⟩
mutual
theorem classN : ∀ (k : NestedKey) (v : Value) (n : Nat), NestedIs s.heap k v → k.depth ≤ n → ∀ Q : Bool → Shared → Prop, Q false s → wpAny (model P w) A (ofAClassStatement n v) Q E s
  | .none, _, n, x, _, Q, q => by
    cases x
    cases n <;> exact wpAny_pure q
  | .num _, _, n, x, _, Q, q => by
    cases x <;> cases n <;> exact wpAny_pure q
  | .text _, _, n, x, _, Q, q => by
    cases x
    cases n <;> exact wpAny_pure q
  | .tup ks, _, n, x, hn, Q, q => by
    cases x with
    | tup ho hc hd hk =>
      simp only [NestedKey.depth] at hn
      cases n with
      | zero => omega
      | succ n =>
        rename_i a o vs m
        have ty : s.TypeIs (.ref a) "tuple" := ⟨o, ho, hc⟩
        unfold ofAClassStatement
        refine wpAny_bind (wpAny_typeOf ty ?_)
        dsimp only
        simp only [show (("tuple" : String) == "tuple") = true by decide, if_true, Bool.not_true, Bool.false_eq_true, if_false]
        try refine wpAny_bind (wpAny_pure ?_)
        try simp only [Bool.not_true, Bool.false_eq_true, if_false]
        show wpAny _ _ (seqItems? (.ref a) >>= _) _ _ s
        refine wpAny_bind (wpAny_seqItems ho hd ?_)
        dsimp only
        refine wpAny_bind ?_
        show wpAny _ _ (forIn vs _ _) _ _ s
        rw [← Array.forIn_toList]
        refine wpAny_forIn_list _ (fun rest r s1 => (∀ v ∈ rest, v ∈ vs.toList) ∧ r.1 = none ∧ s1 = s) _ ?_ ?_ _ _ ⟨fun _ h => h, rfl, rfl⟩
        · rintro v rest r s1 ⟨hall, hr, es⟩
          subst s1
          refine wpAny_bind (classNs ks vs.toList n hk (by omega) v (hall v List.mem_cons_self) _ ?_)
          simp only [Bool.false_eq_true, if_false]
          exact wpAny_pure ⟨fun u hu => hall u (List.mem_cons_of_mem _ hu), rfl, rfl⟩
        · rintro ⟨r1, r2⟩ s1 ⟨_, hr, es⟩
          subst s1
          simp only at hr
          subst hr
          exact wpAny_pure q
theorem classNs : ∀ (ks : List NestedKey) (vs : List Value) (n : Nat), NestedAll s.heap ks vs → NestedKey.depthAll ks ≤ n → ∀ v ∈ vs, ∀ Q : Bool → Shared → Prop, Q false s → wpAny (model P w) A (ofAClassStatement n v) Q E s
  | [], _, _, x, _, v, hv, _, _ => by
    cases x
    cases hv
  | k :: ks, _, n, x, hn, v, hv, Q, q => by
    cases x with
    | cons x1 x2 =>
      simp only [NestedKey.depthAll] at hn
      rcases List.mem_cons.mp hv with e | hv
      · rw [e]
        exact classN k _ n x1 (by omega) Q q
      · exact classNs ks _ n x2 (by omega) v hv Q q
end
/-- a search shows nothing of the table -/
theorem unseenN {k : NestedKey} {b : Addr} {Q : Bool → Shared → Prop} (hk : NuK s.heap k b) {ys : List Value} (hy : ∀ y ∈ ys, ∃ j c, NuK s.heap j c ∧ y = .ref c) (q : Q false s) :
    wpAny (model P w) A (searchCouldBeSeen (.ref b) ys) Q E s := by
  unfold searchCouldBeSeen
  refine wpAny_bind ?_
  refine wpAny_forIn_list _ (fun rest r s1 => (∀ y ∈ rest, ∃ j c, NuK s1.heap j c ∧ y = Value.ref c) ∧ r.1 = none ∧ s1 = s) _ ?_ ?_ _ _ ⟨hy, rfl, rfl⟩
  · rintro v rest r s1 ⟨hall, hr, rfl⟩
    obtain ⟨j, c, hc, rfl⟩ := hall v List.mem_cons_self
    have nx := fun u hu => hall u (List.mem_cons_of_mem _ hu)
    dsimp only
    by_cases hv : (b == c || (carriedByValue (.ref b) && carriedByValue (.ref c))) = true
    · exact wp_if_pos hv (wpAny_pure ⟨nx, rfl, rfl⟩)
    · refine wp_if_neg hv ?_
      refine wpAny_bind (quiet_key k _ 8 s1 hk.1 hk.2 _ _ _ ?_)
      simp only [Bool.not_true, Bool.false_eq_true, if_false]
      refine wpAny_bind (quiet_key j _ 8 s1 hc.1 hc.2 _ _ _ ?_)
      simp only [Bool.not_true, Bool.false_eq_true, if_false]
      refine wpAny_bind (classN k _ 8 hk.1 hk.2 _ ?_)
      simp only [Bool.false_eq_true, if_false]
      refine wpAny_bind (classN j _ 8 hc.1 hc.2 _ ?_)
      simp only [Bool.false_eq_true, if_false]
      exact wpAny_pure ⟨nx, rfl, rfl⟩
  · rintro ⟨r1, r2⟩ s1 ⟨_, hr, rfl⟩
    simp only at hr
    subst hr
    exact wpAny_pure q
end
/-- what stands in such a set: where, at which address, what -/
abbrev Row3 := Nat × Addr × NestedKey
def entN (w : World) (p : Row3) : Int × Value := (hN w p.2.2, .ref p.2.1)
/-- at a: a set of the nested tuples L, with a table that can be walked -/
structure StN (w : World) (h : Heap) (a : Addr) (L : List Row3) (es : Array (Int × Value)) (ep : Nat) (t : SetTable) : Prop where
  obj : ∃ o, h.get? a = some o ∧ o.ExactSet ∧ o.data = .set es ep t
  ent : es.toList = L.map (entN w)
  pl : t.place.toList = L.map (·.1)
  ris : Ris t.place.toList
  dm : t.dummies = #[]
  cyc : Cyc t.mask
  bd : ∀ p ∈ L, p.1 ≤ t.mask
  rch : ∀ p ∈ L, Reach t.mask (L.map (·.1)) (hN w p.2.2) p.1
  once : (L.map (·.2.2)).Nodup
  keys : ∀ p ∈ L, NuK h p.2.2 p.2.1
  led : w.params.followText "set-order" = true ∨ t.led = true
  room : L.length * 5 < t.mask * 3
section
variable {P : Program} {w : World} {A : Around} {E : Value → Shared → Prop} {s : Shared} {a : Addr} {L : List Row3} {es : Array (Int × Value)} {ep : Nat} {t : SetTable}
theorem StN.size (R : StN w s.heap a L es ep t) : es.size = L.length := by
  have q := congrArg List.length R.ent
  simpa using q
theorem StN.psize (R : StN w s.heap a L es ep t) : t.place.size = L.length := by
  have q := congrArg List.length R.pl
  simpa using q
theorem StN.fits (R : StN w s.heap a L es ep t) : t.fits es.size = true := by
  have q1 := R.psize
  have q2 := R.size
  have q3 := R.room
  unfold SetTable.fits SetTable.fill
  rw [R.dm, Bool.and_eq_true, beq_iff_eq, decide_eq_true_eq]
  show t.place.size = es.size ∧ t.place.size + 0 ≤ t.mask
  omega
theorem StN.at_ (R : StN w s.heap a L es ep t) {i : Nat} {p : Row3} (h : L[i]? = some p) : es[i]? = some (entN w p) ∧ t.place.toList[i]? = some p.1 := by
  constructor
  · rw [← Array.getElem?_toList, R.ent, List.getElem?_map, h]
    rfl
  · rw [R.pl, List.getElem?_map, h]
    rfl
theorem StN.of_at (R : StN w s.heap a L es ep t) {i j : Nat} (h : t.place.toList[i]? = some j) : ∃ p, L[i]? = some p ∧ p.1 = j := by
  rw [R.pl, List.getElem?_map] at h
  exact Option.map_eq_some_iff.mp h
theorem StN.sound (R : StN w s.heap a L es ep t) : ¬ t.gaveWay = true := by
  unfold SetTable.gaveWay
  rw [R.cyc.odd]
  decide
/-- the search for k from the c-th step on; K: the first empty place on the way -/
theorem StN.search (R : StN w s.heap a L es ep t) {x : Addr} {k : NestedKey} (hx : NuK s.heap k x) (hu : A.units + 16 < cLine) {K : Nat} (big : K < 10 * SetTable.turns t.mask) (free : way t.mask (hN w k) K ∉ t.place.toList)
    (taken : ∀ c, c < K → way t.mask (hN w k) c ∈ t.place.toList) {Q : SetFound → Shared → Prop} (yes : k ∈ L.map (·.2.2) → Q (.there none) s) (no : k ∉ L.map (·.2.2) → Q (.free (way t.mask (hN w k) K) false) s) :
    ∀ (f c : Nat) (stand : Option SetTable.Probe), c ≤ K → K - c < f → stand.getD (t.probeStart (hN w k)) = stp t (hN w k) c →
      (∀ p ∈ L, p.2.2 = k → ∃ d, c ≤ d ∧ d < K ∧ way t.mask (hN w k) d = p.1) → wpAny (model P w) A (setSearchFrom a (.ref x) (hN w k) true f stand) Q E s := by
  intro f
  induction f with
  | zero => exact fun c stand _ z => absurd z (Nat.not_lt_zero _)
  | succ f ih =>
    intro c stand hc hf hst left
    obtain ⟨o, ho, hex, hd⟩ := R.obj
    rw [setSearchFrom_succ]
    refine wpAny_bind (wpAny_setState_of ho hd R.fits ?_)
    dsimp only
    refine wp_if_neg R.sound ?_
    try refine wpAny_bind (wpAny_pure ?_)
    have jj : ∀ q, (nth t.mask (stp t (hN w k) c) q).j = way t.mask (hN w k) (c + q) := fun q => congrArg SetTable.Probe.j (stp_add t (hN w k) c q)
    have eK : c + (K - c) = K := by omega
    have hh : ∀ (i : Nat) p, L[i]? = some p → (es[i]?.map (·.1)).getD 0 = hN w p.2.2 := fun i p hp => by rw [(R.at_ hp).1]; rfl
    rw [hst]
    rcases go_spec t R.ris R.dm (fun i => (es[i]?.map (·.1)).getD 0) (hN w k) (10 * SetTable.turns t.mask) (K - c) (stp t (hN w k) c) (stp_dummy _ _ _) (by omega) (fun q hq => by rw [jj]; exact taken _ (by omega)) (by rw [jj, eK]; exact free) with ⟨q, i, hq, hi, he, before, pr⟩ | ⟨before, pr⟩
    · rw [jj] at hi pr
      rw [stp_add] at pr
      rw [show t.probe (fun i => (es[i]?.map (·.1)).getD 0) (hN w k) (stp t (hN w k) c) = some (.candidate (way t.mask (hN w k) (c + q)) i (stp t (hN w k) (c + (q + 1)))) from pr]
      dsimp only
      obtain ⟨p, hp, pj⟩ := R.of_at hi
      have pm : p ∈ L := List.mem_of_getElem? hp
      have live : t.slot (way t.mask (hN w k) (c + q)) = .live i := slot_live R.ris hi
      have rest : wpAny (model P w) A (searchRest a (.ref x) (hN w k) true f es t (way t.mask (hN w k) (c + q)) i (stp t (hN w k) (c + (q + 1)))) Q E s := by
        unfold searchRest
        rw [(R.at_ hp).1]
        dsimp only [entN]
        refine wpAny_bind (wpAny_holding ((nestedKind P w).eqBool (show A.units + 8 < cLine by omega) (R.keys p pm) hx ?_))
        refine wpAny_bind (wpAny_setState_of ho hd R.fits ?_)
        dsimp only
        by_cases same : p.2.2 = k
        · exact wp_if_pos (by simp [same]) (wpAny_pure (yes (List.mem_map.mpr ⟨p, pm, same⟩)))
        · refine wp_if_neg (by simp [same]) ?_
          try refine wpAny_bind (wpAny_pure ?_)
          rw [sameMem]
          dsimp only
          simp only [if_true, live, (R.at_ hp).1, entN]
          refine wpAny_bind (wpAny_isSame_ref_self (wpAny_bind (wpAny_pure ?_)))
          simp only [if_true]
          refine wp_if_neg (by simp [same]) ?_
          refine ih (c + (q + 1)) _ (by omega) (by omega) rfl fun p0 m0 e0 => ?_
          obtain ⟨d, d1, d2, d3⟩ := left p0 m0 e0
          refine ⟨d, ?_, d2, d3⟩
          obtain ⟨i0, h0⟩ := List.mem_iff_getElem?.mp m0
          by_cases z1 : d < c + q
          · refine absurd ((hh i0 p0 h0).trans (congrArg (hN w) e0)) (before (d - c) i0 (by omega) ?_)
            rw [jj, show c + (d - c) = d by omega, d3]
            exact (R.at_ h0).2
          · by_cases z2 : d = c + q
            · exfalso
              rw [← z2, d3] at live
              have y := slot_live R.ris (R.at_ h0).2
              rw [live] at y
              injection y with y
              rw [← y, hp] at h0
              cases h0
              exact same e0
            · omega
      by_cases hl : t.led = true
      · refine wp_if_neg (by simp [hl]) ?_
        try refine wpAny_bind (wpAny_pure ?_)
        exact rest
      · refine wp_if_pos (by simp [hl]) (wpAny_bind (unseenN hx (fun y hy => ?_) ?_))
        · obtain ⟨e, he1, rfl⟩ := List.mem_map.mp hy
          have he2 : e ∈ es.toList := by
            have : e ∈ es ∧ e.1 = hN w k := by simpa using he1
            simpa using this.1
          rw [R.ent] at he2
          obtain ⟨p2, hp2, rfl⟩ := List.mem_map.mp he2
          exact ⟨p2.2.2, p2.2.1, R.keys p2 hp2, rfl⟩
        · refine wp_if_neg (by decide) ?_
          try refine wpAny_bind (wpAny_pure ?_)
          exact rest
    · rw [jj, eK] at pr
      rw [show t.probe (fun i => (es[i]?.map (·.1)).getD 0) (hN w k) (stp t (hN w k) c) = some (.empty (way t.mask (hN w k) K) none) from pr]
      dsimp only
      refine wpAny_pure (no fun hm => ?_)
      obtain ⟨p0, m0, e0⟩ := List.mem_map.mp hm
      obtain ⟨i0, h0⟩ := List.mem_iff_getElem?.mp m0
      obtain ⟨d, d1, d2, d3⟩ := left p0 m0 e0
      refine before (d - c) i0 (by omega) ?_ ((hh i0 p0 h0).trans (congrArg (hN w) e0))
      rw [jj, show c + (d - c) = d by omega, d3]
      exact (R.at_ h0).2
/-- the search that an insertion makes -/
theorem StN.find (R : StN w s.heap a L es ep t) {x : Addr} {k : NestedKey} (hx : NuK s.heap k x) (hu : A.units + 16 < cLine) {Q : SetFound → Shared → Prop} (yes : k ∈ L.map (·.2.2) → Q (.there none) s)
    (no : ∀ K, k ∉ L.map (·.2.2) → way t.mask (hN w k) K ∉ t.place.toList → (∀ c, c < K → way t.mask (hN w k) c ∈ t.place.toList) → Q (.free (way t.mask (hN w k) K) false) s) :
    wpAny (model P w) A (setSearch a (.ref x) (hN w k) true) Q E s := by
  have q := R.room
  have q2 := R.psize
  obtain ⟨K, k1, k2, k3⟩ := R.cyc.free (ps := t.place.toList) (by rw [Array.length_toList, q2]; omega) (hN w k)
  have small : 10 * SetTable.turns t.mask ≤ 20620 := by
    have := R.cyc.hi
    unfold SetTable.turns
    omega
  unfold setSearch
  refine R.search hx hu k1 k2 k3 yes (fun z => no K z k2 k3) 100000 0 none (Nat.zero_le _) (by omega) rfl fun p hp e => ?_
  have r := R.rch p hp
  rw [e] at r
  rw [R.pl] at k2
  obtain ⟨d, d1, d2⟩ := r.ahead (List.mem_map_of_mem hp) k2
  exact ⟨d, Nat.zero_le _, d1, d2⟩
end
end MP

/-! sets of nested tuples: an insertion -/
namespace MP
open PySem PySem.Spec PyProof.Rows L2
section
variable {P : Program} {w : World} {A : Around} {E : Value → Shared → Prop} {s : Shared} {a : Addr} {L : List Row3} {es : Array (Int × Value)} {ep : Nat} {t : SetTable}
theorem NuK.keep {h h' : Heap} {k : NestedKey} {b : Addr} (q : NuK h k b) (e : ∀ c o vs n, h.get? c = some o → o.data = .seq vs n → h'.get? c = some o) : NuK h' k b := ⟨NestedIs.at e k _ q.1, q.2⟩
theorem NuK.but {h h' : Heap} {k : NestedKey} {b : Addr} {o : Obj} (q : NuK h k b) (ho : h.get? a = some o) (hd : o.data = .set es ep t) (sb : Heap.SameBut a h h') : NuK h' k b :=
  q.keep fun c u vs n h1 h3 => by
    refine (sb.2 c fun z => ?_).trans h1
    rw [z, ho] at h1
    cases h1
    rw [hd] at h3
    cases h3
def Masks (m : Nat) : Prop := m = 7 ∨ m = 31 ∨ m = 127 ∨ m = 511 ∨ m = 2047
end
end MP

/-! set(a list of nested tuples) -/
namespace MP
open PySem PySem.Spec PyProof.Rows L2
structure MetN (ks : List (Addr × NestedKey)) (i : Nat) (L : List (Addr × NestedKey)) : Prop where
  old : ∀ p ∈ L, p ∈ ks.take i
  new : ∀ p ∈ ks.take i, p.2 ∈ L.map (·.2)
  len : L.length ≤ i
section
variable {P : Program} {w : World} {A : Around} {R : Result → Shared → Prop} {E : Value → Shared → Prop} {s : Shared}
theorem StN.keep {h h' : Heap} {a : Addr} {L : List Row3} {es : Array (Int × Value)} {ep : Nat} {t : SetTable} (q : StN w h a L es ep t) (ha : ∀ o, h.get? a = some o → h'.get? a = some o) (hk : ∀ p ∈ L, NuK h' p.2.2 p.2.1) : StN w h' a L es ep t := by
  obtain ⟨o, ho, r⟩ := q.obj
  exact ⟨⟨o, ha o ho, r⟩, q.ent, q.pl, q.ris, q.dm, q.cyc, q.bd, q.rch, q.once, hk, q.led, q.room⟩
end
end MP

/-! the order of data; sorted(set(a list of nested tuples)) -/
namespace MP
open PySem PySem.Spec PyProof.Rows L2
/-! ### leD is an order -/
def nubK : List NestedKey → List NestedKey
  | [] => []
  | x :: r => if x ∈ r then nubK r else x :: nubK r
section
variable {K : PySem.W.Frag} {m : List Addr} {H : Hp}
end
/-- keys of rows: tuples to depth 8 -/
def rowsOk (ks : List NestedKey) : Bool := ks.all fun k => isTupK k && decide (k.depth ≤ 8)
/-- sorted(set(a list of nested tuples)) -/
def gSortSetN : GC := fun S ds => match ds with
  | [d] => match vw S d with
    | .lst xs => match nksOf xs with
      | some ks => if rowsOk ks = true ∧ ks.length ≤ 1200 ∧ srtOk xs = true then some (.lst (((nubK ks).map nD).mergeSort leD)) else none
      | none => none
    | _ => none
  | _ => none
end MP

/-! `for x in zip(xs, ys)`, two lists, x a name: each turn's pair is kept, or gone -/
namespace MP
open PySem PySem.W PySem.Spec PyProof.Rows L2
/-- a zip, whatever it knows of the pair that it handed out last -/
abbrev ZipV (g : Heap) (z TI TO : Addr) (v : Value) (f : Bool) : Prop := g.get? z = some { cls := .type "zip", dict := none, data := .fields #[v, .bool f, .bool false, .ref TI, .ref TO], slots := #[] }
section
variable {prog : Program} {w : World} {A : Around} {E : Value → Shared → Prop} {s : Shared} {z TI TO i1 i2 l1 l2 : Addr}
/-- it may lay its next pair as if it were the first -/
def Free (prog : Program) (w : World) (E : Value → Shared → Prop) (s : Shared) (z : Addr) : Prop := ∀ (A : Around) (Q : Bool → Shared → Prop), Q true s → wpAny (model prog w) A (Builtin.SmallTypes.ownedTupleIsFree (.ref z)) Q E s
theorem free_none {f : Bool} (hz : ZipV s.heap z TI TO .none f) : Free prog w E s z := fun A Q q => by
  unfold Builtin.SmallTypes.ownedTupleIsFree
  exact wpAny_bind (wpAny_field hz rfl (x := .none) rfl (wpAny_pure q))
theorem free_gone {T : Addr} {f : Bool} (hz : ZipV s.heap z TI TO (rawInt T) f) (hT : s.heap.get? T = none) : Free prog w E s z := fun A Q q => by
  unfold Builtin.SmallTypes.ownedTupleIsFree
  refine wpAny_bind (wpAny_field hz rfl (x := rawInt T) rfl ?_)
  show wpAny _ _ (loadIfAlive ((T : Int).toNat) >>= _) _ _ _
  rw [Int.toNat_natCast]
  have al : wpAny (model prog w) A (loadIfAlive T) (fun r s1 => r = none ∧ s1 = s) E s := fun _ _ _ => ⟨hT, rfl⟩
  refine wpAny_bind (thn al ?_)
  rintro r s1 ⟨rfl, rfl⟩
  simp only [Option.isNone_none, if_true]
  exact wpAny_pure q
theorem zipv_item {f : Bool} {v0 : Value} {n1 n2 : Nat} {us vs : Array Value} {u v p q : Value} {Q : Value → Shared → Prop} (D : ZipApart z TI TO i1 i2 l1 l2) (fr : Free prog w E s z)
    (hz : ZipV s.heap z TI TO v0 f) (ti : IsPair s.heap TI (.ref i1) (.ref i2)) (to : IsPair s.heap TO p q)
    (ia : s.heap.IsListIter i1 l1 n1) (ib : s.heap.IsListIter i2 l2 n2) (la : s.heap.IsList l1 us) (lb : s.heap.IsList l2 vs) (hu : us[n1]? = some u) (hv : vs[n2]? = some v)
    (fin : ∀ g, ZipV g z TI TO (rawInt s.heap.objs.size) false → IsPair g TO u v → g.IsListIter i1 l1 (n1 + 1) → g.IsListIter i2 l2 (n2 + 1) → IsPair g s.heap.objs.size u v → g.objs.size = s.heap.objs.size + 1 →
      (∀ c o, c ≠ z → c ≠ TO → c ≠ i1 → c ≠ i2 → s.heap.get? c = some o → g.get? c = some o) → Q (.ref s.heap.objs.size) { s with heap := g }) :
    wpAny (model prog w) A (Builtin.«zip.__next__» ⟨[.ref z], []⟩) (fun r s1 => ∃ x, r = .done (.ret x) ∧ Q x s1) E s := by
  show wpAny _ _ (field (.ref z) 2 >>= _) _ _ _
  refine wpAny_bind (wpAny_field hz rfl (x := .bool false) rfl ?_)
  show wpAny _ _ (field (.ref z) 3 >>= _) _ _ _
  refine wpAny_bind (wpAny_field hz rfl (x := .ref TI) rfl (wpAny_bind (wpAny_seqItems ti rfl ?_)))
  refine wpAny_bind (fr _ _ ?_)
  simp only [if_true]
  refine wpAny_bind (wpAny_rule (wpAny_bind (wpAny_field hz rfl (x := .ref TO) rfl (wpAny_bind (wpAny_setField_rec hz (by simp) fun g1 z1 b1 => ?_)))))
  replace z1 : ZipV g1 z TI TO .ellipsis f := z1
  refine wpAny_bind ?_
  simp only [List.zipIdx_cons, List.zipIdx_nil, List.forIn_cons, List.forIn_nil]
  -- the first
  refine wpAny_bind (wpAny_bind (wpAny_onRaise ?_))
  show wpAny _ _ (Builtin.SmallTypes.nextOf (.ref i1) >>= _) _ _ _
  refine wpAny_bind (wpAny_nextOf_list_item (ia.extBut b1.extBut D.i1z) (la.extBut b1.extBut D.l1z) hu fun g2 a2 b2 => wpAny_pure ?_)
  have t2 : IsPair g2 TO p q := b2.extBut _ _ D.TOi1 (b1.extBut _ _ D.TOz to)
  refine wpAny_bind (wpAny_seqItems t2 rfl (wpAny_bind (wpAny_updateSeq_pair t2 fun g3 t3 b3 => ?_)))
  replace t3 : IsPair g3 TO u q := t3
  refine wpAny_bind (wpAny_letGo (wpAny_pure ?_))
  -- the second
  refine wpAny_bind (wpAny_bind (wpAny_onRaise ?_))
  show wpAny _ _ (Builtin.SmallTypes.nextOf (.ref i2) >>= _) _ _ _
  have ib3 : g3.IsListIter i2 l2 n2 := ((ib.extBut b1.extBut D.i2z).extBut b2.extBut D.i12.symm).extBut b3.extBut D.TOi2.symm
  have lb3 : g3.IsList l2 vs := ((lb.extBut b1.extBut D.l2z).extBut b2.extBut D.l2i1).extBut b3.extBut D.l2TO
  refine wpAny_bind (wpAny_nextOf_list_item ib3 lb3 hv fun g4 a4 b4 => wpAny_pure ?_)
  have t4 : IsPair g4 TO u q := b4.extBut _ _ D.TOi2 t3
  refine wpAny_bind (wpAny_seqItems t4 rfl (wpAny_bind (wpAny_updateSeq_pair t4 fun g5 t5 b5 => ?_)))
  replace t5 : IsPair g5 TO u v := t5
  refine wpAny_bind (wpAny_letGo (wpAny_pure (wpAny_pure ?_)))
  -- the pair
  refine wpAny_bind (wpAny_seqItems t5 rfl (wpAny_bind (wpAny_newTuple ?_)))
  have sz : g5.objs.size = s.heap.objs.size := by rw [b5.1, b4.1, b3.1, b2.1, b1.1]
  have z5 : ZipV g5 z TI TO .ellipsis f := b5.extBut _ _ D.TOz.symm (b4.extBut _ _ D.i2z.symm (b3.extBut _ _ D.TOz.symm (b2.extBut _ _ D.i1z.symm z1)))
  have k5 : ∀ c o, c ≠ z → c ≠ TO → c ≠ i1 → c ≠ i2 → s.heap.get? c = some o → g5.get? c = some o := fun c o q1 q2 q3 q4 e =>
    b5.extBut _ _ q2 (b4.extBut _ _ q4 (b3.extBut _ _ q2 (b2.extBut _ _ q3 (b1.extBut _ _ q1 e))))
  have a5 : g5.IsListIter i1 l1 (n1 + 1) := ((a2.extBut b3.extBut D.TOi1.symm).extBut b4.extBut D.i12).extBut b5.extBut D.TOi1.symm
  have c5 : g5.IsListIter i2 l2 (n2 + 1) := a4.extBut b5.extBut D.TOi2.symm
  have zlt := Heap.lt_size z5
  show wpAny _ _ (Builtin.SmallTypes.ownedTupleHandOut (.ref z) (.ref g5.objs.size) >>= _) _ _ _
  refine wpAny_bind ?_
  unfold Builtin.SmallTypes.ownedTupleHandOut
  have z6 : ZipV (g5.push { cls := .type "tuple", data := .seq #[u, v] }) z TI TO .ellipsis f := Heap.get?_push_of_some _ z5
  refine wpAny_bind (wpAny_setField_rec z6 (by simp) fun g7 z7 b7 => ?_)
  replace z7 : ZipV g7 z TI TO (rawInt g5.objs.size) f := z7
  refine wpAny_setField_rec z7 (by simp) fun g8 z8 b8 => ?_
  replace z8 : ZipV g8 z TI TO (rawInt g5.objs.size) false := z8
  have up : ∀ c o, c ≠ z → g5.get? c = some o → g8.get? c = some o := fun c o q1 e => b8.extBut _ _ q1 (b7.extBut _ _ q1 (Heap.get?_push_of_some _ e))
  have t8 : IsPair g8 g5.objs.size u v := b8.extBut _ _ (Nat.ne_of_gt zlt) (b7.extBut _ _ (Nat.ne_of_gt zlt) (Heap.get?_push_size _ rfl))
  have sz8 : g8.objs.size = g5.objs.size + 1 := by rw [b8.1, b7.1, Heap.size_push]
  rw [sz] at z8 t8 sz8
  refine wpAny_pure ⟨_, rfl, ?_⟩
  show Q (.ref g5.objs.size) _
  rw [sz]
  exact fin g8 z8 (up _ _ D.TOz t5) (a5.at fun o e => up _ o D.i1z e) (c5.at fun o e => up _ o D.i2z e) t8 sz8 fun c o q1 q2 q3 q4 e => up c o q1 (k5 c o q1 q2 q3 q4 e)
theorem zipv_over {f : Bool} {v0 : Value} {n1 n2 : Nat} {us vs : Array Value} {p q : Value} {Q : PySem.Fin → Shared → Prop} (hh : A.handled = none) (D : ZipApart z TI TO i1 i2 l1 l2) (fr : Free prog w E s z)
    (hz : ZipV s.heap z TI TO v0 f) (ti : IsPair s.heap TI (.ref i1) (.ref i2)) (to : IsPair s.heap TO p q)
    (ia : s.heap.IsListIter i1 l1 n1) (ib : s.heap.IsListIter i2 l2 n2) (la : s.heap.IsList l1 us) (lb : s.heap.IsList l2 vs) (no : us[n1]? = none ∨ vs[n2]? = none)
    (fin : ∀ g e, (∀ c o, c ≠ z → c ≠ TO → c ≠ i1 → c ≠ i2 → s.heap.get? c = some o → g.get? c = some o) → (∃ o, g.get? e = some o ∧ o.cls = .type "StopIteration") → E (.ref e) { s with heap := g }) :
    wpAny (model prog w) A (Builtin.«zip.__next__» ⟨[.ref z], []⟩) Q E s := by
  show wpAny _ _ (field (.ref z) 2 >>= _) _ _ _
  refine wpAny_bind (wpAny_field hz rfl (x := .bool false) rfl ?_)
  show wpAny _ _ (field (.ref z) 3 >>= _) _ _ _
  refine wpAny_bind (wpAny_field hz rfl (x := .ref TI) rfl (wpAny_bind (wpAny_seqItems ti rfl ?_)))
  refine wpAny_bind (fr _ _ ?_)
  simp only [if_true]
  refine wpAny_bind (wpAny_rule (wpAny_bind (wpAny_field hz rfl (x := .ref TO) rfl (wpAny_bind (wpAny_setField_rec hz (by simp) fun g1 z1 b1 => ?_)))))
  replace z1 : ZipV g1 z TI TO .ellipsis f := z1
  refine wpAny_bind ?_
  simp only [List.zipIdx_cons, List.zipIdx_nil, List.forIn_cons, List.forIn_nil]
  refine wpAny_bind (wpAny_bind (wpAny_onRaise ?_))
  show wpAny _ _ (Builtin.SmallTypes.nextOf (.ref i1) >>= _) _ _ _
  cases hu : us[n1]? with
  | none =>
    refine wpAny_bind (wpAny_nextOf_list_end hh (ia.extBut b1.extBut D.i1z) (la.extBut b1.extBut D.l1z) hu fun g2 e b2 ⟨oe, he, ce⟩ => ?_)
    have z2 : ZipV g2 z TI TO .ellipsis f := b2 _ _ D.i1z.symm z1
    have ez : e ≠ z := fun y => by subst y; rw [z2] at he; cases he; simp at ce
    exact wpAny_setField_rec z2 (by simp) fun g3 _ b3 => fin g3 e (fun c o q1 _ q3 _ y => b3.extBut _ _ q1 (b2 _ _ q3 (b1.extBut _ _ q1 y))) ⟨oe, b3.extBut _ _ ez he, ce⟩
  | some u =>
    have hv : vs[n2]? = none := by
      rcases no with y | y
      · rw [hu] at y
        cases y
      · exact y
    refine wpAny_bind (wpAny_nextOf_list_item (ia.extBut b1.extBut D.i1z) (la.extBut b1.extBut D.l1z) hu fun g2 a2 b2 => wpAny_pure ?_)
    have t2 : IsPair g2 TO p q := b2.extBut _ _ D.TOi1 (b1.extBut _ _ D.TOz to)
    refine wpAny_bind (wpAny_seqItems t2 rfl (wpAny_bind (wpAny_updateSeq_pair t2 fun g3 t3 b3 => wpAny_bind (wpAny_letGo (wpAny_pure ?_)))))
    refine wpAny_bind (wpAny_bind (wpAny_onRaise ?_))
    show wpAny _ _ (Builtin.SmallTypes.nextOf (.ref i2) >>= _) _ _ _
    have ib3 : g3.IsListIter i2 l2 n2 := ((ib.extBut b1.extBut D.i2z).extBut b2.extBut D.i12.symm).extBut b3.extBut D.TOi2.symm
    have lb3 : g3.IsList l2 vs := ((lb.extBut b1.extBut D.l2z).extBut b2.extBut D.l2i1).extBut b3.extBut D.l2TO
    refine wpAny_bind (wpAny_nextOf_list_end hh ib3 lb3 hv fun g4 e b4 ⟨oe, he, ce⟩ => ?_)
    have z4 : ZipV g4 z TI TO .ellipsis f := b4 _ _ D.i2z.symm (b3.extBut _ _ D.TOz.symm (b2.extBut _ _ D.i1z.symm z1))
    have ez : e ≠ z := fun y => by subst y; rw [z4] at he; cases he; simp at ce
    exact wpAny_setField_rec z4 (by simp) fun g5 _ b5 => fin g5 e (fun c o q1 q2 q3 q4 y => b5.extBut _ _ q1 (b4 _ _ q4 (b3.extBut _ _ q2 (b2.extBut _ _ q3 (b1.extBut _ _ q1 y))))) ⟨oe, b5.extBut _ _ ez he, ce⟩
/-- how the zip stands at its i-th turn -/
structure Zs (z TI TO i1 i2 l1 l2 : Addr) (i : Nat) (h : Heap) : Prop where
  zz : ZipV h z TI TO .none false ∨ ∃ (T : Addr) (f : Bool), ZipV h z TI TO (rawInt T) f
  ti : IsPair h TI (.ref i1) (.ref i2)
  to : ∃ p q, IsPair h TO p q
  ia : h.IsListIter i1 l1 i
  ib : h.IsListIter i2 l2 i
theorem Zs.at_ {i : Nat} {h : Heap} (t : Zs z TI TO i1 i2 l1 l2 i h) : ∃ v f, ZipV h z TI TO v f := by
  rcases t.zz with y | ⟨T, f, y⟩
  · exact ⟨_, _, y⟩
  · exact ⟨_, _, y⟩
theorem Zs.turn {Q : Option Value → Shared → Prop} {i : Nat} {us vs : Array Value} {u v : Value} (D : ZipApart z TI TO i1 i2 l1 l2) (t : Zs z TI TO i1 i2 l1 l2 i s.heap) (la : s.heap.IsList l1 us) (lb : s.heap.IsList l2 vs) (hu : us[i]? = some u) (hv : vs[i]? = some v)
    (hQ : ∀ g, Zs z TI TO i1 i2 l1 l2 (i + 1) g → IsPair g s.heap.objs.size u v → g.objs.size = s.heap.objs.size + 1 → (∀ c o, c ∉ [z, TI, TO, i1, i2] → s.heap.get? c = some o → g.get? c = some o) → Q (some (.ref s.heap.objs.size)) { s with heap := g }) :
    wpAny (model prog w) A (pyNext (.ref z)) Q E s := by
  obtain ⟨p, q, to⟩ := t.to
  obtain ⟨v0, f, zv⟩ := t.at_
  have ty : s.TypeIs (.ref z) "zip" := ⟨_, zv, rfl⟩
  have road : ∀ {v1 : Value} {f1 : Bool}, ZipV s.heap z TI TO v1 f1 → (∀ E', Free prog w E' s z) → wpAny (model prog w) A (pyNext (.ref z)) Q E s := fun zv fr => by
    unfold pyNext
    refine wpAny_bind (wpAny_attempt (wpAny_callSpecial?_slot (name := Str.ofString "__next__") ty F.slot_zip_next (wpAny_call_entry F.slot_zip_next ty F.entry_zip_next
      (zipv_item D (fr _) zv t.ti to t.ia t.ib la lb hu hv fun g a1 a2 a3 a4 a5 a6 a7 => wpAny_pure ?_) (F.args_zip_next_1 _))))
    refine hQ g ⟨.inr ⟨_, _, a1⟩, a7 _ _ D.TIz D.TITO D.TIi1 D.TIi2 t.ti, ⟨_, _, a2⟩, a3, a4⟩ a5 a6 fun c o nc e => ?_
    simp only [List.mem_cons, List.not_mem_nil, or_false, not_or] at nc
    exact a7 c o nc.1 nc.2.2.1 nc.2.2.2.1 nc.2.2.2.2 e
  rcases t.zz with y | ⟨T, f1, y⟩
  · exact road y fun E' => free_none y
  · cases hT : s.heap.get? T with
    | none => exact road y fun E' => free_gone y hT
    | some oT =>
      refine wpAny_pyNext_zip_item_held D y hT t.ti t.ia t.ib la lb hu hv fun g b1 b3 b4 b5 b6 keep => ?_
      refine hQ g ⟨.inr ⟨T, true, b1⟩, keep _ _ D.TIz D.TIi1 D.TIi2 t.ti, ⟨p, q, keep _ _ D.TOz D.TOi1 D.TOi2 to⟩, b3, b4⟩ b5 b6 fun c o nc e => ?_
      simp only [List.mem_cons, List.not_mem_nil, or_false, not_or] at nc
      exact keep c o nc.1 nc.2.2.2.1 nc.2.2.2.2 e
theorem Zs.over {Q : Option Value → Shared → Prop} {i : Nat} {us vs : Array Value} (hh : A.handled = none) (D : ZipApart z TI TO i1 i2 l1 l2) (t : Zs z TI TO i1 i2 l1 l2 i s.heap) (la : s.heap.IsList l1 us) (lb : s.heap.IsList l2 vs) (no : us[i]? = none ∨ vs[i]? = none)
    (hQ : ∀ g, (∀ c o, c ∉ [z, TI, TO, i1, i2] → s.heap.get? c = some o → g.get? c = some o) → Q none { s with heap := g }) : wpAny (model prog w) A (pyNext (.ref z)) Q E s := by
  obtain ⟨p, q, to⟩ := t.to
  obtain ⟨v0, f, zv⟩ := t.at_
  have ty : s.TypeIs (.ref z) "zip" := ⟨_, zv, rfl⟩
  have road : ∀ {v1 : Value} {f1 : Bool}, ZipV s.heap z TI TO v1 f1 → (∀ E', Free prog w E' s z) → wpAny (model prog w) A (pyNext (.ref z)) Q E s := fun zv fr => by
    unfold pyNext
    refine wpAny_bind (wpAny_attempt (wpAny_callSpecial?_slot (name := Str.ofString "__next__") ty F.slot_zip_next (wpAny_call_entry F.slot_zip_next ty F.entry_zip_next
      (zipv_over hh D (fr _) zv t.ti to t.ia t.ib la lb no fun g e k ⟨o, ho, hc⟩ => ?_) (F.args_zip_next_1 _))))
    refine wpAny_bind (wpAny_isInstance (T := "StopIteration") (b := true) ⟨o, ho, hc⟩ isSubtype_stop (wpAny_pure (hQ g fun c o nc e => ?_)))
    simp only [List.mem_cons, List.not_mem_nil, or_false, not_or] at nc
    exact k c o nc.1 nc.2.2.1 nc.2.2.2.1 nc.2.2.2.2 e
  rcases t.zz with y | ⟨T, f1, y⟩
  · exact road y fun E' => free_none y
  · cases hT : s.heap.get? T with
    | none => exact road y fun E' => free_gone y hT
    | some oT =>
      refine wpAny_pyNext_zip_end_held hh D y hT t.ti t.ia t.ib la lb no fun g keep => hQ g fun c o nc e => ?_
      simp only [List.mem_cons, List.not_mem_nil, or_false, not_or] at nc
      exact keep c o nc.1 nc.2.2.2.1 nc.2.2.2.2 e
end
section
variable {X : Cx} {e e2 : Expr} {t : LA} {p pos np : Pos} {x : Str}
def lZipL (t : LA) : LI := fun ρ S => (t ρ S).bind fun ds S1 => match ds with
  | [.lst xs, .lst ys] => .ok ⟨zipD xs ys, fun _ => True⟩ S1
  | _ => .bad
end
end MP

/-! more of dicts: d.get(k), len(d), {x: c} into the store, an empty dict updated, d.items() of a dict that nobody changes any more -/
namespace MP
open PySem PySem.Spec PyProof.Rows L2
section
variable {X : Cx}
/-- d.get(k) -/
def stGet1 : GM := fun S r ds => match ds with
  | [y] => match vw S r with
    | .dct t kvs => (kOf t y).map fun ks => ((lookD t kvs ks).getD .non, S)
    | _ => none
  | _ => none
/-- len(d) -/
def gLenD : GC := fun S ds => match ds with
  | [d] => match vw S d with
    | .dct false kvs => some (.int kvs.length)
    | _ => none
  | _ => none
/-- {x: c} into the store, x a local name that holds a text -/
def lDispB (i : Nat) (b : Bool) : LE := fun ρ S => match ρ[i]? with
  | some (some (.str z)) => .ok (.ref S.length) (S ++ [.dct false [(.str z, .bl b)]])
  | _ => .bad
end
end MP

/-! an empty dict of tuple keys, updated by one of at most one key -/
namespace MP
open PySem PySem.Spec PyProof.Rows L2
section
variable {X : Cx}
theorem nodup_le1 {α β : Type} (f : α → β) : ∀ l : List α, l.length ≤ 1 → (l.map f).Nodup
  | [], _ => List.nodup_nil
  | [a], _ => List.pairwise_singleton _ _
  | _ :: _ :: _, h => by simp at h
def stUpd1 : GM := fun S r ds => match r, ds with
  | .ref j, [.dct true more] => match S[j]? with
    | some (.dct true []) => if more.length ≤ 1 then some (.non, S.set j (.dct true more)) else none
    | _ => none
  | _, _ => none
theorem mtl_upd1 (hu : X.A.units + 64 < cLine) : MtL X "dict.update" stUpd1 := ⟨fun pins s σ H m S S' x dx d xs ds v us I q r rs rv rvs e => by
  unfold stUpd1 at e
  split at e
  · rename_i j more
    split at e
    · rename_i q1
      split at e
      · rename_i hle
        cases e
        obtain ⟨a, rfl, ha, orr⟩ := VR.ref_at q r q1
        obtain rfl : v = Value.ref a := rv
        obtain ⟨w2, rfl, rw2⟩ := rs.one
        cases rw2 with
        | @dctT o ws _ no ho rr2 =>
          rw [Vals.ref1 rvs]
          cases orr with
          | @dctT vs _ hh rr =>
            cases rr
            obtain ⟨z, hsys, us, p, dd⟩ := dt_of I.hok hh
            cases p
            obtain ⟨z2, hsys2, ys, p2, dd2⟩ := dt_of I.hok ho
            have hao : a ≠ o := fun z => no (by rw [← z]; exact List.mem_iff_getElem?.mpr ⟨j, ha⟩)
            have l1 : ws.length = more.length := rr2.length
            have l2 : ws.length = ys.length := Paired.length p2
            have ly : ys.length ≤ 1 := by omega
            have hnd := nodup_le1 (fun x : List Key × Addr × Value => (tupleKind (mixKind X.prog X.w)).hash x.1) ys ly
            have hnk := nodup_le1 (fun x : List Key × Addr × Value => x.1) ys ly
            have hty : ∀ y ∈ ys, s.TypeIs (.ref y.2.1) "tuple" := fun y hy => by
              obtain ⟨_, _, _, _, _, _, _, hk, _⟩ := dd2
              obtain ⟨ob, its, n, h1, h2, _⟩ := hk y hy
              exact ⟨ob, h1, h2⟩
            refine call_update_dictH (tupleKind_room_in1 (by omega)) hao hsys2 dd dd2 (.inr ⟨hty, hnd⟩) (by simp only [List.length_nil, Nat.zero_add]; exact Nat.le_trans ly (by decide)) fun h' dd' dd2' hs => ?_
            rw [storedAllH_nil_of_nodup _ hnk] at dd'
            obtain ⟨z1, zz⟩ := q.write (o' := .dT ws) (ob' := .dct true more) ha fun e => .dctT upd_same (rr2.ext e q.muts)
            have he : ∃ q, h'.get? a = some q := let ⟨q, _, _, hq, _⟩ := dd'; ⟨q, hq⟩
            refine ⟨.non, _, m, d_write (t' := s.toks) I (by rw [hh]; exact True.intro) hs he ?_, rfl, z1, zz, .non⟩
            obtain ⟨ob, es, ep, f1, f2, f3, f4, f5, f6⟩ := dd'
            refine ⟨z2, hsys, ys, ?_, ob, es, ep, f1, f2, f3, f4, f6⟩
            refine L2.Paired.mapP p2 fun b c h => ⟨h.1, ?_, h.2.2⟩
            have nb : c.2.1 ≠ a := fun y => by
              have h2 := h.2.1
              rw [y, hh] at h2
              cases h2
            rw [upd_ne nb]
            exact h.2.1
      · cases e
    · cases e
  · cases e⟩
end
end MP

/-! a dict that a call hands over is nobody's any more: frozen; its items walked, sorted -/
namespace MP
open PySem PySem.Spec PyProof.Rows L2
section
variable {X : Cx}
/-- (d, y) with a new dict d of the store: the dict is frozen, what is new in the store is let go -/
noncomputable def lFz (l : LE) : LE := fun ρ S => match l ρ S with
  | .ok (.tup [.ref j, y]) S' => match S'[j]? with
    | some (.dct false kvs) => @ite _ (S'.take S.length = S ∧ S.length ≤ j ∧ belowd S.length kvs = true ∧ below S.length y = true) (Classical.propDecidable _) (.ok (.tup [.fdct kvs, y]) S) .bad
    | _ => .bad
  | .exc C fs S' => .exc C fs S'
  | _ => .bad
end
end MP

namespace MP
open PySem PySem.Spec PyProof.Rows L2
def itemsD (kvs : List (D × D)) : List D := kvs.map fun q => D.tup [q.1, q.2]
def lItemsF (l : LE) : LI := fun ρ S => (l ρ S).bind fun d S1 => match d with
  | .fdct kvs => .ok ⟨itemsD kvs, fun _ => True⟩ S1
  | _ => .bad
section
variable {X : Cx}
/-- sorted(d.items()) -/
def lSortItems (l : LE) : LE := fun ρ S => (l ρ S).bind fun d S1 => match d with
  | .fdct kvs => if srtOk (itemsD kvs) = true then .ok (.lst ((itemsD kvs).mergeSort leD)) S1 else .bad
  | _ => .bad
end
end MP

namespace MP
open PySem PySem.Spec PyProof.Rows L2 LamX
section
variable {X : Cx}
/-- sorted(d), d a frozen dict -/
def gSortedF : GC := fun S ds => match ds with
  | [.fdct kvs] => if srtOk (kvs.map (·.1)) = true then some (.lst ((kvs.map (·.1)).mergeSort leD)) else none
  | _ => none
end
end MP

/-! C(e, k = v): a value by place and one by name, the others by default -/
namespace MP
open PySem PySem.Spec PyProof.Rows L2
def kwM2 (n m : Nat) (gm : F) (dd ds es : List D) (S : Sto) : R D := if ds.length = n ∧ es.length = m then gm (ds ++ es ++ dd) S else .bad
def lMakeKw (n m : Nat) (gm : F) (dd : List D) (t tk : LA) : LE := fun ρ S => (t ρ S).bind fun ds S1 => (tk ρ S1).bind fun es S2 => kwM2 n m gm dd ds es S2
section
variable {X : Cx} {e : Expr} {pos p : Pos} {es : List Expr} {kws : List Keyword} {t tk : LA} {x : Str} {k n : Nat} {f C : Addr} {fd : FuncData} {ps ks : List Str} {g : F}
end
end MP

/-! a statement that goes on or tells, with what is known then -/
namespace MP
open PySem PySem.Spec PyProof.Rows L2
def ExR (l : LS) (ρ : Ev) (S : Sto) (Q : Ev → Sto → Prop) (R : D → Sto → Prop) : Prop := (∃ ρ' S', l ρ S = .ok (.nx ρ') S' ∧ Q ρ' S') ∨ (∃ d S', l ρ S = .ok (.rt d) S' ∧ R d S')
section
variable {l l1 l2 lb : LS} {ρ ρ' ρ1 : Ev} {S S' S1 : Sto} {Q M : Ev → Sto → Prop} {R : D → Sto → Prop} {tc : LT} {d : D}
theorem ExR.nx (h : l ρ S = .ok (.nx ρ') S') (q : Q ρ' S') : ExR l ρ S Q R := .inl ⟨ρ', S', h, q⟩
theorem ExR.rt (h : l ρ S = .ok (.rt d) S') (q : R d S') : ExR l ρ S Q R := .inr ⟨d, S', h, q⟩
theorem ExR.seqn (h : l1 ρ S = .ok (.nx ρ1) S1) (h2 : ExR l2 ρ1 S1 Q R) : ExR (lSeq l1 l2) ρ S Q R := by
  rcases h2 with ⟨ρ', S', e, q⟩ | ⟨d, S', e, q⟩
  · exact .inl ⟨ρ', S', seq_nx h e, q⟩
  · exact .inr ⟨d, S', seq_nx h e, q⟩
theorem ExR.seq (h : ExR l1 ρ S M R) (h2 : ∀ ρ1 S1, M ρ1 S1 → ExR l2 ρ1 S1 Q R) : ExR (lSeq l1 l2) ρ S Q R := by
  rcases h with ⟨ρ', S', e, q⟩ | ⟨d, S', e, q⟩
  · exact .seqn e (h2 _ _ q)
  · exact .inr ⟨d, S', seq_rt e, q⟩
theorem ExR.tt (h : tc ρ S = .ok true S1) (h2 : ExR l1 ρ S1 Q R) : ExR (lIfS tc l1 l2) ρ S Q R := by
  rcases h2 with ⟨ρ', S', e, q⟩ | ⟨d, S', e, q⟩
  · exact .inl ⟨ρ', S', if_tt h e, q⟩
  · exact .inr ⟨d, S', if_tt h e, q⟩
theorem ExR.body {n : Nat} {ds : List D} {Rr : D → Sto → Prop} (h : ExR lb (ds.map some ++ List.replicate (n - ds.length) none) S (fun _ S' => Rr .non S') Rr) : ∃ d S', bodyF n lb ds S = .ok d S' ∧ Rr d S' := by
  rcases h with ⟨ρ', S', e, q⟩ | ⟨d, S', e, q⟩
  · exact ⟨.non, S', body_nx e, q⟩
  · exact ⟨d, S', body_rt e, q⟩
end
end MP

namespace MP
open PySem PySem.Spec PyProof.Rows L2 LamX
section
variable {X : Cx}
end
end MP

/-! self.f, self.g = e; {x.f: None} into the store; d.update(d2), keys texts; sorted(d.items()) of a dict of the store -/
namespace MP
open PySem PySem.Spec PyProof.Rows L2
section
variable {X : Cx} {e : Expr} {le : LE} {z f1 f2 : Str} {pos p1 p2 a1 a2 tp : Pos} {kk : Nat} {C : Addr}
def lAsg2A (k : Nat) (C : Addr) (f1 f2 : Str) (le : LE) : LS := fun ρ S => liftX ρ (le ρ S) fun d S1 => match d with
  | .tup [a, b] => match ρ[k]? with
    | some (some (.ref r)) => match stFld C f1 S1 (.ref r) a with
      | some S2 => liftS (stFld C f2 S2 (.ref r) b) ρ
      | none => .bad
    | _ => .bad
  | _ => .bad
end
section
variable {X : Cx}
/-- {x.f: None} into the store, x a local name -/
def lDispA (k : Nat) (C : Addr) (f : Str) : LE := fun ρ S => match ρ[k]? with
  | some (some d) => match gFld C f S d with
    | some (.str z) => .ok (.ref S.length) (S ++ [.dct false [(.str z, .non)]])
    | _ => .bad
  | _ => .bad
/-- d.update(d2), keys texts and ints -/
def mergeDD (kvs more : List (D × D)) : List (D × D) := more.foldl (fun acc q => match keyOf q.1 with
  | some k => putDD false acc [k] q.2
  | none => acc) kvs
def stUpdK : GM := fun S r ds => match r, ds with
  | .ref j, [.dct false more] => match S[j]? with
    | some (.dct false kvs) => if kvs.length + more.length ≤ sizeLine then some (.non, S.set j (.dct false (mergeDD kvs more))) else none
    | _ => none
  | _, _ => none
/-- sorted(d.items()), d of the store -/
def lSortItemsD (l : LE) : LE := fun ρ S => (l ρ S).bind fun d S1 => match vw S1 d with
  | .dct false kvs => if srtOk (itemsD kvs) = true then .ok (.lst ((itemsD kvs).mergeSort leD)) S1 else .bad
  | _ => .bad
end
end MP

/-! o.m(k = v, ..); a tuple written, put on, turned round, of no dict of its own; C(k = v, ..) in any order, the others by default -/
namespace MP
open PySem PySem.Spec PyProof.Rows L2
section
variable {X : Cx} {e o : Expr} {pos apos p : Pos} {es : List Expr} {kws : List Keyword} {t tk : LA} {lo : LE} {x mn : Str} {k n : Nat} {f C : Addr} {fd : FuncData} {ps ks : List Str} {g : F}
/-- self ahead, then the keywords' values, picked into the order of the parameters -/
def lMethK (C : Addr) (mn : Str) (m : Nat) (g : F) (pk : List Nat) (lo : LE) (tk : LA) : LE := fun ρ S => (lo ρ S).bind fun d S0 => if recv C mn S0 d = true then (tk ρ S0).bind fun es S1 => if es.length = m then g (pick pk (d :: es)) S1 else .bad else .bad
theorem pel_methK {pl : Sem Bool} {pk : List Nat} (c : Cls X.K C) (hm : Meth X.K C mn f) (Fn : FnL X.prog X.w X.K X.mg X.base k f fd ps g) (hr : Room k X.A) (hb : KwB X.K fd ps 1 ks pk []) (he : PEL X o lo)
    (hkw : PKL X kws tk) (hall : (backToKw pos (keywordEach kws X.env)).all (·.1.isSome) = true := by rfl) (hks : (backToKw pos (keywordEach kws X.env)).filterMap (·.1) = ks := by rfl)
    (hpl : ((backTo pos (starEach [] X.env)).any (·.1) || (backToKw pos (keywordEach kws X.env)).any (·.1.isNone)) = false := by rfl)
    (ht : eval (.Call (.Attribute o mn apos) [] kws pos) X.env = (do
      let ov ← eval o X.env
      standAt apos.atName
      let (f, first) ← holding [ov] (getMethod ov mn pl)
      callWith pos f first (backTo pos (starEach [] X.env)) (backToKw pos (keywordEach kws X.env))) := by rfl) :
    PEL X (.Call (.Attribute o mn apos) [] kws pos) (lMethK C mn ks.length g pk lo tk) := by
  refine ⟨fun pins s σ H m ρ S I x r hp => ?_⟩
  refine PySem.W.methodCall_KW (pl := pl) (run_seq he I x r hp fun d S0 q0 v u s0 H0 m0 I0 rv0 e0 x0 w0 r0 hp0 => ?_) ht
  have hc := hope_if hp0
  rw [if_pos hc] at hp0
  obtain ⟨a, dx, fs, rfl, ea, hl⟩ := recv_at x0 w0 hc
  obtain rfl : u = Value.ref a := rv0
  refine getmeth_ok I0 ea c hm hl ?_
  refine PySem.W.callWith_KW0 (first := [.ref a]) (h₀ := X.base) I.ok.mod.kin hm.kp hall ?_ hpl
  refine thn (hkw.run pos pins s0 σ H0 m0 ρ S0 I0 x0 r0 (hope_seq hp0)) fun ws s2 ⟨zs, S2, zv, H2, m2, q2, I2, rv2, e2, x2, w2⟩ => ⟨I2.kIn, ?_⟩
  rw [q2] at hp0
  have hp2 : Hope X σ m2 H2 (if zs.length = ks.length then g (pick pk (d :: zs)) S2 else .bad) := hp0.ext e2
  have hn := hope_if hp2
  rw [if_pos hn] at hp2
  have ez : lMethK C mn ks.length g pk lo tk ρ S = g (pick pk (d :: zs)) S2 := by unfold lMethK; rw [q0, bind_ok, if_pos hc, q2, bind_ok, if_pos hn]
  rw [ez, hks]
  have l2 : ws.length = ks.length := by rw [← rv2.length, w2.length]; exact hn
  have r3 : Vals (V.ref a :: zv) (Value.ref a :: ws) := .cons rfl rv2
  have hb1 := hb.to s2 [.ref a] ws I2.kIn rfl l2
  rw [List.append_nil] at hb1
  refine thn (run_fnK (args := ⟨[.ref a], ks.zip ws⟩) Fn hr hb1 I2 x2 (vals_pick r3 pk) ((VRs.cons (w0.ext e2 x0.muts) w2).pick pk) (hb.len _ ?_) hp2) fun _ _ z => z.left (e0.trans e2)
  rw [r3.length, List.length_cons, l2]
  simp only [List.length_nil]
  omega
/-- a tuple written -/
def lTupF (t : LA) : LE := fun ρ S => (t ρ S).bind fun ds S1 => if ds.length ≤ sizeLine then .ok (.ftup ds) S1 else .bad
theorem pel_tupF {x1 : Nat} (h : PAL X es t) : PEL X (.Tuple es x1 pos) (lTupF t) := by
  refine ⟨fun pins s σ H m ρ S I x r hp => ?_⟩
  refine wpAny_Tuple_spliced (run_seqA h I x r hp fun ds S1 q1 vs us s1 H1 m1 I1 rv e1 x1 w1 r1 hp1 => ?_)
  have hz := hope_if hp1
  refine ⟨by rw [← rv.length, w1.length]; exact hz, ?_⟩
  have hf : H1 s1.heap.objs.size = none := I1.hok.fresh (Nat.le_refl _)
  have e0 : lTupF t ρ S = .ok (.ftup ds) S1 := by unfold lTupF; rw [q1, bind_ok, if_pos hz]
  rw [e0]
  refine (vpr_of ⟨.ref s1.heap.objs.size, upd H1 s1.heap.objs.size (.frz { cls := .type "tuple", data := .seq us.toArray } (.tup vs)), m1, I1.laid (t' := s1.toks) (o := .frz { cls := .type "tuple", data := .seq us.toArray } (.tup vs)) (fun b u e => Heap.get?_push_of_some _ e) (Nat.le_refl _) ?_, rfl, Ext.fresh hf, x1.fresh hf, .ftup rfl upd_same (w1.fresh x1 hf)⟩).left e1
  exact ⟨Heap.get?_push_size _ rfl, by rw [w1.length]; exact hz, us, rv, IsTup.new _ _⟩
/-- such a tuple, and some put on -/
def gAddF : G2 := fun S x y => match x, y with
  | .ftup a, .tup b => if a ≠ [] ∧ b ≠ [] ∧ a.length + b.length ≤ 100000 then some (.ftup (a ++ b)) else none
  | _, _ => none
theorem opl_addF : OpL X (binaryOp .Add) gAddF := ⟨fun pins s σ H m S x y dx dy d v u I q rx ry ex ey e => by
  unfold gAddF at e
  split at e
  · rename_i i j
    split at e
    · rename_i hz
      cases e
      obtain ⟨a, xs, o, rfl, _, ha, r1⟩ := vw_ftup (S := S) rx rfl
      obtain ⟨b, ys, rfl, hb, r2⟩ := vw_tup (S := S) ry rfl
      obtain rfl : v = Value.ref a := ex
      obtain rfl : u = Value.ref b := ey
      obtain ⟨its, s1, p1, _⟩ := I.tuple (SqT.rd (.inr ⟨o, ha⟩))
      obtain ⟨its2, s2, p2, _⟩ := I.tuple (SqT.of hb)
      have hf : H s.heap.objs.size = none := I.hok.fresh (Nat.le_refl _)
      have hl : (xs ++ ys).length ≤ sizeLine := by rw [List.length_append, r1.length, r2.length]; exact Nat.le_trans hz.2.2 (by decide)
      refine HT.cat_tup p1 p2 (fun z => hz.1 (r1.nil_iff.mp (s1.nil_iff.mp z))) (fun z => absurd (r2.nil_iff.mp (s2.nil_iff.mp z)) hz.2.1) (fun z => ?_) (by rw [← s1.length, ← s2.length, ← List.length_append]; exact hl)
      exact ⟨.ref s.heap.objs.size, upd H s.heap.objs.size (.frz { cls := .type "tuple", data := .seq (its ++ its2).toArray } (.tup (xs ++ ys))), m, I.laid (t' := s.toks) (o := .frz { cls := .type "tuple", data := .seq (its ++ its2).toArray } (.tup (xs ++ ys))) (fun b u e => Heap.get?_push_of_some _ e) (Nat.le_refl _) ⟨Heap.get?_push_size _ rfl, hl, _, s1.append s2, IsTup.new _ _⟩, rfl, Ext.fresh hf, q.fresh hf, .ftup rfl upd_same ((r1.append r2).fresh q hf)⟩
    · cases e
  · cases e⟩
end
def gRevF (S : Sto) (d : D) : Option D := match vw S d with
  | .ftup xs => some (.tup xs.reverse)
  | _ => none
section
variable {X : Cx} {e b : Expr} {le lb : LE} {k : Nat} {p1 p2 p3 pos : Pos}
theorem pel_revF (he : PEL X e le) : PEL X (.Subscript e (.Slice none none (some (.UnaryOp .USub (.Constant (.int 1) k p1) p2)) p3) pos) (lUn gRevF le) := by
  refine ⟨fun pins s σ H m ρ S I x r hp => ?_⟩
  refine Subscript_ (run_seq he I x r hp fun d S1 q1 v u s1 H1 m1 I1 rv e1 x1 w1 r1 hp1 => ?_)
  obtain ⟨d', q2⟩ := lift_ok hp1
  have e0 : lUn gRevF le ρ S = .ok d' S1 := by unfold lUn; rw [q1, bind_ok, q2]; rfl
  rw [e0]
  have hst : PO X (some (.UnaryOp .USub (.Constant (.int 1) k p1) p2)) (tPart (tUn (rU fun i => .int (-i)) (tC (.int 1)))) := po_some (pe_un un_neg pe_int)
  refine wpAny_Slice (thn (po_none.run pins s1 σ H1 (fun o H2 => o = none ∧ H2 = H1) I1 ⟨rfl, rfl⟩) fun vl s2 ⟨l, H2, I2, pl, el, e2⟩ => ?_)
  subst el e2
  refine thn (po_none.run pins s2 σ H2 (fun o H3 => o = none ∧ H3 = H2) I2 ⟨rfl, rfl⟩) fun vu s3 ⟨u2, H3, I3, pu, eu, e3⟩ => ?_
  subst eu e3
  refine thn (hst.run pins s3 σ H3 (fun o H4 => o = some (-1) ∧ H4 = H3) I3 ⟨1, rfl, -1, rfl, rfl, rfl⟩) fun vs s4 ⟨o, H4, I4, ps, eo, e4⟩ => ?_
  subst eo e4
  have I5 : Inv X pins σ H4 { s4 with heap := s4.heap.push { cls := .type "slice", data := .fields #[vl, vu, vs] } } := I4.kept (t' := s4.toks) fun b ob q => Heap.get?_push_of_some _ q
  show wpAny (model X.prog X.w) X.A (subscriptTail e (.Slice none none (some (.UnaryOp .USub (.Constant (.int 1) k p1) p2)) p3) u (.ref s4.heap.objs.size)) _ X.xe { s4 with heap := s4.heap.push { cls := .type "slice", data := .fields #[vl, vu, vs] } }
  unfold gRevF at q2
  split at q2
  · rename_i xs hv
    cases q2
    obtain ⟨a, ws, o, rfl, _, hx, rr⟩ := vw_ftup w1 hv
    obtain rfl : u = Value.ref a := rv
    obtain ⟨its, r', ht, hz⟩ := I5.tuple (SqT.rd (.inr ⟨o, hx⟩))
    have hlen := r'.length
    refine tail_any (ops := [.ref a, .ref s4.heap.objs.size]) ht.typeIs (PyProof.Rows.slot_tuple_getitem.lookup) ?_ (by with_unfolding_all rfl)
    refine getItem_tuple_rev ht (Heap.IsSliceOf.new _ vl vu vs) pl pu ps ?_ (by rw [List.size_toArray]; omega)
    have hf2 : H4 (s4.heap.push { cls := .type "slice", data := .fields #[vl, vu, vs] }).objs.size = none := I5.hok.fresh (Nat.le_refl _)
    exact (vpr_of ⟨.ref _, upd H4 _ (.tup ws.reverse), m1, I5.laid (t' := s4.toks) (o := .tup ws.reverse) (fun b ob q => Heap.get?_push_of_some _ q) (Nat.le_refl _) ⟨by rw [List.length_reverse]; exact hz, _, r'.reverse, IsTup.new _ _⟩, rfl, Ext.fresh hf2, x1.fresh hf2, vr_newTup x1 hf2 rr.reverse⟩).left e1
  · cases q2
end
/-! a, b, .. = a list -/
def gtLst (n : Nat) (gs : GTs) : GT := fun d ρ => match d with
  | .lst ds => if ds.length = n then gs ds ρ else none
  | _ => none
section
variable {X : Cx} {e : Expr} {le : LE} {pos tp : Pos}
theorem psl_asgL {es : List Expr} {ix : List Nat} {gs : GTs} {n k : Nat} (hc : X.calm = true) (he : PEL X e le) (hgs : PGsL X es ix gs) (hn : (assignEach es X.env).length = n := by rfl) (hst : (assignEach es X.env).findIdx? (·.1) = none := by rfl)
    (hs : swapsWithSole [.Tuple es k tp] e pos.line X.env = pure false := by rfl) (hw : swappedStores [.Tuple es k tp] e X.env = pure none := by rfl)
    (h1 : (assignEach [.Tuple es k tp] X.env).map (·.2) = [assign (.Tuple es k tp) X.env] := by rfl) : PSL X (.Assign [.Tuple es k tp] e pos) (lAsg (gtLst n gs) le) := by
  refine ⟨fun pins s σ H D I ⟨m, ρ, S, x, er, hl, h⟩ => ?_⟩
  refine wpAny_Assign_stores (expr_in he I x er hl h fun d S1 q v u s1 H1 m1 I1 rv e1 x1 w er1 h2 => ?_) hs hw
  rw [h1]
  cases hgd : gtLst n gs d ρ with
  | none => rw [hgd] at h2; obtain ⟨fl, S', q⟩ := h2.ok; cases q
  | some ρ1 =>
    rw [hgd] at h2
    unfold gtLst at hgd
    split at hgd
    · rename_i ds
      split at hgd
      · rename_i hlen
        have key : ∃ a vs, v = .ref a ∧ SqL X.K H1 a vs ∧ VRs X.K m1 H1 vs ds := by
          cases w with
          | lst n h r => exact ⟨_, _, rfl, .inl h, r⟩
          | lstK hk h1 h2 h3 h4 h5 r => exact ⟨_, _, rfl, .inr ⟨_, _, _, hk, h1, h2, h3, h4, h5⟩, r⟩
        obtain ⟨a, vs, rfl, hq, r⟩ := key
        exact thn ((pg_unl (n := n) hc hgs hn hst).run pins s1 σ H1 (.ref a) u (fun σ' H' => D.nx σ' H') I1 rv ⟨a, vs, rfl, hq, by rw [r.length]; exact hlen, m1, H1, ρ, ds, ρ1, fun _ _ z => z, r, er1, hl, hgd, fun σ' er' hl' _ _ => h2.nx ρ1 S1 rfl σ' H1 (sv_same x1 er' hl')⟩) fun _ s2 q => q
      · cases hgd
    · cases hgd
end
/-- C(k = v, ..): self ahead, the keywords in any order, the last ones by default -/
theorem kwbP {K : PySem.W.Frag} {y qual : Str} {params : Arguments} {body : List Stmt} {scope : Scope} {dvs : List V} {kws : List (Str × V)} {f : Addr} {fd : FuncData} {ps : List Str} (F : FunD K y qual params body scope dvs kws f fd) (n j : Nat) (ks : List Str) (pk : List Nat) (hd : dvs ≠ []) (hp : pk.length = ps.length) (ha : pk.all (fun i => decide (i < n + ks.length + (dvs.length - j))) = true)
    (h : ∀ (T : Addr) (kV doc pm : Value) (an : Option Addr) (cdv ct : Value) (us its ws : List Value), us.length = n → its.length = dvs.length → ws.length = ks.length →
      ∃ k, bindArgs (PySem.W.fnOf y qual params body scope (.ref T) kV doc pm an cdv ct) ⟨us, ks.zip ws⟩ = seqItems? (.ref T) >>= k ∧ k (some its.toArray) = pure (ps.zip (pick pk (us ++ ws ++ its.drop j)))) :
    ∃ ds0, Vals (dvs.drop j) ds0 ∧ KwB K fd ps n ks pk ds0 := by
  obtain ⟨oc, od, dV, kV, doc, pm, an, cdv, ct, osl, rfl, lk, hcd, hD, hK⟩ := F.ex
  rcases hD with ⟨e, _⟩ | ⟨_, T, o, its, m, rfl, lT, oT, rT⟩
  · exact absurd e hd
  · have li : its.length = dvs.length := rT.length.symm
    refine ⟨its.drop j, rT.drop j, fun s us ws X l1 l2 => ?_, fun xs hx => ?_⟩
    · obtain ⟨k, e1, e2⟩ := h T kV doc pm an cdv ct us its ws l1 li l2
      exact PySem.W.binds_K X rfl lT oT e1 e2
    · rw [← hp]
      refine pick_len pk xs ?_
      rw [hx, List.length_drop, li]
      exact ha
end MP

namespace K10
open PySem PySem.Spec PyProof.Rows L2 MP
def top (i : Nat) : Stmt := PySem.Challenge.pw_lotgivers_k10_by_names_of_one_and_two.main.body.getD i (.Pass ⟨0, 0, 0, 0⟩)
abbrev s_is_name : Stmt := top 9
abbrev N_is_name : List Str := ["thing", "letter"]
theorem sc_is_name : FnScope N_is_name ["thing"] (defScope s_is_name) := ⟨rfl, rfl, rfl, by decide +kernel, rfl, by decide +kernel, by decide +kernel⟩
abbrev s_is_pair : Stmt := top 10
abbrev N_is_pair : List Str := ["thing"]
theorem sc_is_pair : FnScope N_is_pair ["thing"] (defScope s_is_pair) := ⟨rfl, rfl, rfl, by decide +kernel, rfl, by decide +kernel, by decide +kernel⟩
abbrev s_does_rise : Stmt := top 11
abbrev N_does_rise : List Str := ["things", "one", "other"]
theorem sc_does_rise : FnScope N_does_rise ["things"] (defScope s_does_rise) := ⟨rfl, rfl, rfl, by decide +kernel, rfl, by decide +kernel, by decide +kernel⟩
abbrev s_are_pairs : Stmt := top 12
abbrev N_are_pairs : List Str := ["thing", "one"]
theorem sc_are_pairs : FnScope N_are_pairs ["thing"] (defScope s_are_pairs) := ⟨rfl, rfl, rfl, by decide +kernel, rfl, by decide +kernel, by decide +kernel⟩
abbrev s_is_member : Stmt := top 16
abbrev N_is_member : List Str := ["thing"]
theorem sc_is_member : FnScope N_is_member ["thing"] (defScope s_is_member) := ⟨rfl, rfl, rfl, by decide +kernel, rfl, by decide +kernel, by decide +kernel⟩
abbrev s_are_members : Stmt := top 17
abbrev N_are_members : List Str := ["thing", "one", "other"]
theorem sc_are_members : FnScope N_are_members ["thing"] (defScope s_are_members) := ⟨rfl, rfl, rfl, by decide +kernel, rfl, by decide +kernel, by decide +kernel⟩
abbrev s_are_years : Stmt := top 18
abbrev N_are_years : List Str := ["thing", "year"]
theorem sc_are_years : FnScope N_are_years ["thing"] (defScope s_are_years) := ⟨rfl, rfl, rfl, by decide +kernel, rfl, by decide +kernel, by decide +kernel⟩
abbrev s_is_circle : Stmt := top 19
abbrev N_is_circle : List Str := ["members", "bars", "past", "gap"]
theorem sc_is_circle : FnScope N_is_circle ["members", "bars", "past", "gap"] (defScope s_is_circle) := ⟨rfl, rfl, rfl, by decide +kernel, rfl, by decide +kernel, by decide +kernel⟩
abbrev s_Circle___init__ : Stmt := inClass (top 21) 0
abbrev N_Circle___init__ : List Str := ["self", "members", "bars", "past", "gap", "pair", "year"]
theorem sc_Circle___init__ : FnScope N_Circle___init__ ["self", "members", "bars", "past", "gap"] (defScope s_Circle___init__) := ⟨rfl, rfl, rfl, by decide +kernel, rfl, by decide +kernel, by decide +kernel⟩
abbrev s_Circle___eq__ : Stmt := inClass (top 21) 1
abbrev N_Circle___eq__ : List Str := ["self", "other", "mine", "theirs"]
theorem sc_Circle___eq__ : FnScope N_Circle___eq__ ["self", "other"] (defScope s_Circle___eq__) := ⟨rfl, rfl, rfl, by decide +kernel, rfl, by decide +kernel, by decide +kernel⟩
abbrev s_Circle_names : Stmt := inClass (top 21) 5
abbrev N_Circle_names : List Str := ["self"]
theorem sc_Circle_names : FnScope N_Circle_names ["self"] (defScope s_Circle_names) := ⟨rfl, rfl, rfl, by decide +kernel, rfl, by decide +kernel, by decide +kernel⟩
abbrev s_Circle_house_of : Stmt := inClass (top 21) 6
abbrev N_Circle_house_of : List Str := ["self", "name"]
theorem sc_Circle_house_of : FnScope N_Circle_house_of ["self", "name"] (defScope s_Circle_house_of) := ⟨rfl, rfl, rfl, by decide +kernel, rfl, by decide +kernel, by decide +kernel⟩
abbrev s_Circle_reason : Stmt := inClass (top 21) 7
abbrev N_Circle_reason : List Str := ["self", "giver", "taker", "mine", "yours"]
theorem sc_Circle_reason : FnScope N_Circle_reason ["self", "giver", "taker"] (defScope s_Circle_reason) := ⟨rfl, rfl, rfl, by decide +kernel, rfl, by decide +kernel, by decide +kernel⟩
abbrev s_Circle_takers : Stmt := inClass (top 21) 8
abbrev N_Circle_takers : List Str := ["self", "giver", "name"]
theorem sc_Circle_takers : FnScope N_Circle_takers ["self", "giver"] (defScope s_Circle_takers) := ⟨rfl, rfl, rfl, by decide +kernel, rfl, by decide +kernel, by decide +kernel⟩
abbrev s_Circle_givers : Stmt := inClass (top 21) 9
abbrev N_Circle_givers : List Str := ["self", "taker", "name"]
theorem sc_Circle_givers : FnScope N_Circle_givers ["self", "taker"] (defScope s_Circle_givers) := ⟨rfl, rfl, rfl, by decide +kernel, rfl, by decide +kernel, by decide +kernel⟩
abbrev s_without : Stmt := top 23
abbrev N_without : List Str := ["circle", "name", "rest", "member"]
theorem sc_without : FnScope N_without ["circle", "name"] (defScope s_without) := ⟨rfl, rfl, rfl, by decide +kernel, rfl, by decide +kernel, by decide +kernel⟩
abbrev s_with_one : Stmt := top 24
abbrev N_with_one : List Str := ["circle", "member"]
theorem sc_with_one : FnScope N_with_one ["circle", "member"] (defScope s_with_one) := ⟨rfl, rfl, rfl, by decide +kernel, rfl, by decide +kernel, by decide +kernel⟩
abbrev s_are_drawn : Stmt := top 26
abbrev N_are_drawn : List Str := ["thing", "givers_here", "giver", "taker"]
theorem sc_are_drawn : FnScope N_are_drawn ["thing"] (defScope s_are_drawn) := ⟨rfl, rfl, rfl, by decide +kernel, rfl, by decide +kernel, by decide +kernel⟩
abbrev s_Drawing___init__ : Stmt := inClass (top 27) 0
abbrev N_Drawing___init__ : List Str := ["self", "pairs"]
theorem sc_Drawing___init__ : FnScope N_Drawing___init__ ["self", "pairs"] (defScope s_Drawing___init__) := ⟨rfl, rfl, rfl, by decide +kernel, rfl, by decide +kernel, by decide +kernel⟩
abbrev s_Drawing_taker_of : Stmt := inClass (top 27) 5
abbrev N_Drawing_taker_of : List Str := ["self", "name", "giver", "taker"]
theorem sc_Drawing_taker_of : FnScope N_Drawing_taker_of ["self", "name"] (defScope s_Drawing_taker_of) := ⟨rfl, rfl, rfl, by decide +kernel, rfl, by decide +kernel, by decide +kernel⟩
abbrev s_Drawing_giver_of : Stmt := inClass (top 27) 6
abbrev N_Drawing_giver_of : List Str := ["self", "name", "giver", "taker"]
theorem sc_Drawing_giver_of : FnScope N_Drawing_giver_of ["self", "name"] (defScope s_Drawing_giver_of) := ⟨rfl, rfl, rfl, by decide +kernel, rfl, by decide +kernel, by decide +kernel⟩
abbrev s_keeps : Stmt := top 28
abbrev N_keeps : List Str := ["circle", "drawing", "giver", "taker"]
theorem sc_keeps : FnScope N_keeps ["circle", "drawing"] (defScope s_keeps) := ⟨rfl, rfl, rfl, by decide +kernel, rfl, by decide +kernel, by decide +kernel⟩
abbrev s_broken : Stmt := top 29
abbrev N_broken : List Str := ["circle", "drawing", "mine", "theirs", "giver", "taker", "odd", "name", "rows", "row"]
theorem sc_broken : FnScope N_broken ["circle", "drawing"] (defScope s_broken) := ⟨rfl, rfl, rfl, by decide +kernel, rfl, by decide +kernel, by decide +kernel⟩
abbrev s__law_blend : Stmt := top 31
abbrev N__law_blend : List Str := ["_law_number", "_law_turn", "_law_seed", "_law_once"]
theorem sc__law_blend : FnScope N__law_blend ["_law_number", "_law_turn"] (defScope s__law_blend) := ⟨rfl, rfl, rfl, by decide +kernel, rfl, by decide +kernel, by decide +kernel⟩
abbrev s__law_pot : Stmt := top 32
abbrev N__law_pot : List Str := ["_law_script"]
theorem sc__law_pot : FnScope N__law_pot ["_law_script"] (defScope s__law_pot) := ⟨rfl, rfl, rfl, by decide +kernel, rfl, by decide +kernel, by decide +kernel⟩
abbrev s__law_draw : Stmt := top 33
abbrev N__law_draw : List Str := ["_law_pot_here", "_law_size", "_law_cell", "_law_digit"]
theorem sc__law_draw : FnScope N__law_draw ["_law_pot_here", "_law_size"] (defScope s__law_draw) := ⟨rfl, rfl, rfl, by decide +kernel, rfl, by decide +kernel, by decide +kernel⟩
abbrev s__law_four : Stmt := top 34
abbrev N__law_four : List Str := ["_law_pot_here", "_law_letters", "_law_found", "_law_k"]
theorem sc__law_four : FnScope N__law_four ["_law_pot_here"] (defScope s__law_four) := ⟨rfl, rfl, rfl, by decide +kernel, rfl, by decide +kernel, by decide +kernel⟩
abbrev s__law_circle_right : Stmt := top 35
abbrev N__law_circle_right : List Str := ["_law_a", "_law_b", "_law_c", "_law_some", "_law_barred", "_law_behind", "_law_box", "_law_told"]
theorem sc__law_circle_right : FnScope N__law_circle_right ["_law_a", "_law_b", "_law_c"] (defScope s__law_circle_right) := ⟨rfl, rfl, rfl, by decide +kernel, rfl, by decide +kernel, by decide +kernel⟩
abbrev s__law_drawing_right : Stmt := top 36
abbrev N__law_drawing_right : List Str := ["_law_a", "_law_b", "_law_c", "_law_d", "_law_box", "_law_made"]
theorem sc__law_drawing_right : FnScope N__law_drawing_right ["_law_a", "_law_b", "_law_c", "_law_d"] (defScope s__law_drawing_right) := ⟨rfl, rfl, rfl, by decide +kernel, rfl, by decide +kernel, by decide +kernel⟩
abbrev s_law : Stmt := top 37
abbrev N_law : List Str := ["_law_script", "_law_pot_here", "_law_a", "_law_b", "_law_c", "_law_d"]
theorem sc_law : FnScope N_law ["_law_script"] (defScope s_law) := ⟨rfl, rfl, rfl, by decide +kernel, rfl, by decide +kernel, by decide +kernel⟩
structure T10 (K : PySem.W.Frag) (mg : Str → Option Value) where
  C_Circle : Addr
  C_Drawing : Addr
  tk_LETTERS : Tok
  tk_MOST_LETTERS : Tok
  tk_MOST_FIGURES : Tok
  f_is_name : Addr
  fd_is_name : FuncData
  F_is_name : Fun K "is_name" "is_name" s_is_name f_is_name fd_is_name
  b_is_name : Binds K fd_is_name ["thing"] []
  mg_is_name : mg "is_name" = some (.ref f_is_name)
  f_is_pair : Addr
  fd_is_pair : FuncData
  F_is_pair : Fun K "is_pair" "is_pair" s_is_pair f_is_pair fd_is_pair
  b_is_pair : Binds K fd_is_pair ["thing"] []
  mg_is_pair : mg "is_pair" = some (.ref f_is_pair)
  f_does_rise : Addr
  fd_does_rise : FuncData
  F_does_rise : Fun K "does_rise" "does_rise" s_does_rise f_does_rise fd_does_rise
  b_does_rise : Binds K fd_does_rise ["things"] []
  mg_does_rise : mg "does_rise" = some (.ref f_does_rise)
  f_are_pairs : Addr
  fd_are_pairs : FuncData
  F_are_pairs : Fun K "are_pairs" "are_pairs" s_are_pairs f_are_pairs fd_are_pairs
  b_are_pairs : Binds K fd_are_pairs ["thing"] []
  mg_are_pairs : mg "are_pairs" = some (.ref f_are_pairs)
  f_is_member : Addr
  fd_is_member : FuncData
  F_is_member : Fun K "is_member" "is_member" s_is_member f_is_member fd_is_member
  b_is_member : Binds K fd_is_member ["thing"] []
  mg_is_member : mg "is_member" = some (.ref f_is_member)
  f_are_members : Addr
  fd_are_members : FuncData
  F_are_members : Fun K "are_members" "are_members" s_are_members f_are_members fd_are_members
  b_are_members : Binds K fd_are_members ["thing"] []
  mg_are_members : mg "are_members" = some (.ref f_are_members)
  f_are_years : Addr
  fd_are_years : FuncData
  F_are_years : Fun K "are_years" "are_years" s_are_years f_are_years fd_are_years
  b_are_years : Binds K fd_are_years ["thing"] []
  mg_are_years : mg "are_years" = some (.ref f_are_years)
  f_is_circle : Addr
  fd_is_circle : FuncData
  F_is_circle : Fun K "is_circle" "is_circle" s_is_circle f_is_circle fd_is_circle
  b_is_circle : Binds K fd_is_circle ["members", "bars", "past", "gap"] []
  mg_is_circle : mg "is_circle" = some (.ref f_is_circle)
  f_Circle___init__ : Addr
  fd_Circle___init__ : FuncData
  F_Circle___init__ : FunD K "__init__" "Circle.__init__" (defArgs s_Circle___init__) (defBody s_Circle___init__) (defScope s_Circle___init__) [.non, .non, .int 1] [] f_Circle___init__ fd_Circle___init__
  a_Circle___init__ : PySem.W.findIn K (.ref C_Circle) "__init__" = some (some (.ref f_Circle___init__))
  i_Circle___init__ : PySem.W.isFn K (.ref f_Circle___init__) = true
  f_Circle___eq__ : Addr
  fd_Circle___eq__ : FuncData
  F_Circle___eq__ : Fun K "__eq__" "Circle.__eq__" s_Circle___eq__ f_Circle___eq__ fd_Circle___eq__
  b_Circle___eq__ : Binds K fd_Circle___eq__ ["self", "other"] []
  a_Circle___eq__ : PySem.W.findIn K (.ref C_Circle) "__eq__" = some (some (.ref f_Circle___eq__))
  i_Circle___eq__ : PySem.W.isFn K (.ref f_Circle___eq__) = true
  f_Circle_names : Addr
  fd_Circle_names : FuncData
  F_Circle_names : Fun K "names" "Circle.names" s_Circle_names f_Circle_names fd_Circle_names
  b_Circle_names : Binds K fd_Circle_names ["self"] []
  a_Circle_names : PySem.W.findIn K (.ref C_Circle) "names" = some (some (.ref f_Circle_names))
  i_Circle_names : PySem.W.isFn K (.ref f_Circle_names) = true
  mt_Circle_names : Meth K C_Circle "names" f_Circle_names
  f_Circle_house_of : Addr
  fd_Circle_house_of : FuncData
  F_Circle_house_of : Fun K "house_of" "Circle.house_of" s_Circle_house_of f_Circle_house_of fd_Circle_house_of
  b_Circle_house_of : Binds K fd_Circle_house_of ["self", "name"] []
  a_Circle_house_of : PySem.W.findIn K (.ref C_Circle) "house_of" = some (some (.ref f_Circle_house_of))
  i_Circle_house_of : PySem.W.isFn K (.ref f_Circle_house_of) = true
  mt_Circle_house_of : Meth K C_Circle "house_of" f_Circle_house_of
  f_Circle_reason : Addr
  fd_Circle_reason : FuncData
  F_Circle_reason : Fun K "reason" "Circle.reason" s_Circle_reason f_Circle_reason fd_Circle_reason
  b_Circle_reason : Binds K fd_Circle_reason ["self", "giver", "taker"] []
  a_Circle_reason : PySem.W.findIn K (.ref C_Circle) "reason" = some (some (.ref f_Circle_reason))
  i_Circle_reason : PySem.W.isFn K (.ref f_Circle_reason) = true
  mt_Circle_reason : Meth K C_Circle "reason" f_Circle_reason
  f_Circle_takers : Addr
  fd_Circle_takers : FuncData
  F_Circle_takers : Fun K "takers" "Circle.takers" s_Circle_takers f_Circle_takers fd_Circle_takers
  b_Circle_takers : Binds K fd_Circle_takers ["self", "giver"] []
  a_Circle_takers : PySem.W.findIn K (.ref C_Circle) "takers" = some (some (.ref f_Circle_takers))
  i_Circle_takers : PySem.W.isFn K (.ref f_Circle_takers) = true
  mt_Circle_takers : Meth K C_Circle "takers" f_Circle_takers
  f_Circle_givers : Addr
  fd_Circle_givers : FuncData
  F_Circle_givers : Fun K "givers" "Circle.givers" s_Circle_givers f_Circle_givers fd_Circle_givers
  b_Circle_givers : Binds K fd_Circle_givers ["self", "taker"] []
  a_Circle_givers : PySem.W.findIn K (.ref C_Circle) "givers" = some (some (.ref f_Circle_givers))
  i_Circle_givers : PySem.W.isFn K (.ref f_Circle_givers) = true
  mt_Circle_givers : Meth K C_Circle "givers" f_Circle_givers
  f_without : Addr
  fd_without : FuncData
  F_without : Fun K "without" "without" s_without f_without fd_without
  b_without : Binds K fd_without ["circle", "name"] []
  mg_without : mg "without" = some (.ref f_without)
  f_with_one : Addr
  fd_with_one : FuncData
  F_with_one : Fun K "with_one" "with_one" s_with_one f_with_one fd_with_one
  b_with_one : Binds K fd_with_one ["circle", "member"] []
  mg_with_one : mg "with_one" = some (.ref f_with_one)
  f_are_drawn : Addr
  fd_are_drawn : FuncData
  F_are_drawn : Fun K "are_drawn" "are_drawn" s_are_drawn f_are_drawn fd_are_drawn
  b_are_drawn : Binds K fd_are_drawn ["thing"] []
  mg_are_drawn : mg "are_drawn" = some (.ref f_are_drawn)
  f_Drawing___init__ : Addr
  fd_Drawing___init__ : FuncData
  F_Drawing___init__ : Fun K "__init__" "Drawing.__init__" s_Drawing___init__ f_Drawing___init__ fd_Drawing___init__
  b_Drawing___init__ : Binds K fd_Drawing___init__ ["self", "pairs"] []
  a_Drawing___init__ : PySem.W.findIn K (.ref C_Drawing) "__init__" = some (some (.ref f_Drawing___init__))
  i_Drawing___init__ : PySem.W.isFn K (.ref f_Drawing___init__) = true
  f_Drawing_taker_of : Addr
  fd_Drawing_taker_of : FuncData
  F_Drawing_taker_of : Fun K "taker_of" "Drawing.taker_of" s_Drawing_taker_of f_Drawing_taker_of fd_Drawing_taker_of
  b_Drawing_taker_of : Binds K fd_Drawing_taker_of ["self", "name"] []
  a_Drawing_taker_of : PySem.W.findIn K (.ref C_Drawing) "taker_of" = some (some (.ref f_Drawing_taker_of))
  i_Drawing_taker_of : PySem.W.isFn K (.ref f_Drawing_taker_of) = true
  mt_Drawing_taker_of : Meth K C_Drawing "taker_of" f_Drawing_taker_of
  f_Drawing_giver_of : Addr
  fd_Drawing_giver_of : FuncData
  F_Drawing_giver_of : Fun K "giver_of" "Drawing.giver_of" s_Drawing_giver_of f_Drawing_giver_of fd_Drawing_giver_of
  b_Drawing_giver_of : Binds K fd_Drawing_giver_of ["self", "name"] []
  a_Drawing_giver_of : PySem.W.findIn K (.ref C_Drawing) "giver_of" = some (some (.ref f_Drawing_giver_of))
  i_Drawing_giver_of : PySem.W.isFn K (.ref f_Drawing_giver_of) = true
  mt_Drawing_giver_of : Meth K C_Drawing "giver_of" f_Drawing_giver_of
  f_keeps : Addr
  fd_keeps : FuncData
  F_keeps : Fun K "keeps" "keeps" s_keeps f_keeps fd_keeps
  b_keeps : Binds K fd_keeps ["circle", "drawing"] []
  mg_keeps : mg "keeps" = some (.ref f_keeps)
  f_broken : Addr
  fd_broken : FuncData
  F_broken : Fun K "broken" "broken" s_broken f_broken fd_broken
  b_broken : Binds K fd_broken ["circle", "drawing"] []
  mg_broken : mg "broken" = some (.ref f_broken)
  f__law_blend : Addr
  fd__law_blend : FuncData
  F__law_blend : Fun K "_law_blend" "_law_blend" s__law_blend f__law_blend fd__law_blend
  b__law_blend : Binds K fd__law_blend ["_law_number", "_law_turn"] []
  mg__law_blend : mg "_law_blend" = some (.ref f__law_blend)
  f__law_pot : Addr
  fd__law_pot : FuncData
  F__law_pot : Fun K "_law_pot" "_law_pot" s__law_pot f__law_pot fd__law_pot
  b__law_pot : Binds K fd__law_pot ["_law_script"] []
  mg__law_pot : mg "_law_pot" = some (.ref f__law_pot)
  f__law_draw : Addr
  fd__law_draw : FuncData
  F__law_draw : Fun K "_law_draw" "_law_draw" s__law_draw f__law_draw fd__law_draw
  b__law_draw : Binds K fd__law_draw ["_law_pot_here", "_law_size"] []
  mg__law_draw : mg "_law_draw" = some (.ref f__law_draw)
  f__law_four : Addr
  fd__law_four : FuncData
  F__law_four : Fun K "_law_four" "_law_four" s__law_four f__law_four fd__law_four
  b__law_four : Binds K fd__law_four ["_law_pot_here"] []
  mg__law_four : mg "_law_four" = some (.ref f__law_four)
  f__law_circle_right : Addr
  fd__law_circle_right : FuncData
  F__law_circle_right : Fun K "_law_circle_right" "_law_circle_right" s__law_circle_right f__law_circle_right fd__law_circle_right
  b__law_circle_right : Binds K fd__law_circle_right ["_law_a", "_law_b", "_law_c"] []
  mg__law_circle_right : mg "_law_circle_right" = some (.ref f__law_circle_right)
  f__law_drawing_right : Addr
  fd__law_drawing_right : FuncData
  F__law_drawing_right : Fun K "_law_drawing_right" "_law_drawing_right" s__law_drawing_right f__law_drawing_right fd__law_drawing_right
  b__law_drawing_right : Binds K fd__law_drawing_right ["_law_a", "_law_b", "_law_c", "_law_d"] []
  mg__law_drawing_right : mg "_law_drawing_right" = some (.ref f__law_drawing_right)
  f_law : Addr
  fd_law : FuncData
  F_law : Fun K "law" "law" s_law f_law fd_law
  b_law : Binds K fd_law ["_law_script"] []
  mg_law : mg "law" = some (.ref f_law)
  mg_Circle : mg "Circle" = some (.ref C_Circle)
  cl_Circle : Cls K C_Circle
  mk_Circle : Mk K C_Circle f_Circle___init__
  ok_Circle : OwnOk K C_Circle
  na_Circle_members : NoAttr K C_Circle "members"
  na_Circle_bars : NoAttr K C_Circle "bars"
  na_Circle_past : NoAttr K C_Circle "past"
  na_Circle_gap : NoAttr K C_Circle "gap"
  na_Circle_houses : NoAttr K C_Circle "houses"
  na_Circle_names_told : NoAttr K C_Circle "names_told"
  na_Circle_barred : NoAttr K C_Circle "barred"
  na_Circle_gone_by : NoAttr K C_Circle "gone_by"
  mg_Drawing : mg "Drawing" = some (.ref C_Drawing)
  cl_Drawing : Cls K C_Drawing
  mk_Drawing : Mk K C_Drawing f_Drawing___init__
  ok_Drawing : OwnOk K C_Drawing
  na_Drawing_pairs : NoAttr K C_Drawing "pairs"
  mg_LETTERS : mg "LETTERS" = some (.str "abcdefghijklmnopqrstuvwxyz" tk_LETTERS)
  mg_MOST_LETTERS : mg "MOST_LETTERS" = some (.int 12 tk_MOST_LETTERS)
  mg_MOST_FIGURES : mg "MOST_FIGURES" = some (.int 30 tk_MOST_FIGURES)
  n_len : mg "len" = none
  n_abs : mg "abs" = none
  n_all : mg "all" = none
  n_range : mg "range" = none
  n_isinstance : mg "isinstance" = none
  n_list : mg "list" = none
  n_tuple : mg "tuple" = none
  n_str : mg "str" = none
  n_sorted : mg "sorted" = none
  n_zip : mg "zip" = none
  n_set : mg "set" = none
  n_max : mg "max" = none
  n_dict : mg "dict" = none
  n_int : mg "int" = none
  n_bool : mg "bool" = none
def T10_mk {K : PySem.W.Frag} {h : Heap} {mg : Str → Option Value} (X : K.In h) (G : h.Ns mainGlobals mg)
    {C_Drawing : Addr}
    {C_Circle : Addr}
    {f_is_name : Addr} {od_is_name an_is_name : Option Addr} {sl_is_name : Array (Option Value)} {oc_is_name kV_is_name dc_is_name pm_is_name cd_is_name ct_is_name : Value}
    {f_is_pair : Addr} {od_is_pair an_is_pair : Option Addr} {sl_is_pair : Array (Option Value)} {oc_is_pair kV_is_pair dc_is_pair pm_is_pair cd_is_pair ct_is_pair : Value}
    {f_does_rise : Addr} {od_does_rise an_does_rise : Option Addr} {sl_does_rise : Array (Option Value)} {oc_does_rise kV_does_rise dc_does_rise pm_does_rise cd_does_rise ct_does_rise : Value}
    {f_are_pairs : Addr} {od_are_pairs an_are_pairs : Option Addr} {sl_are_pairs : Array (Option Value)} {oc_are_pairs kV_are_pairs dc_are_pairs pm_are_pairs cd_are_pairs ct_are_pairs : Value}
    {f_is_member : Addr} {od_is_member an_is_member : Option Addr} {sl_is_member : Array (Option Value)} {oc_is_member kV_is_member dc_is_member pm_is_member cd_is_member ct_is_member : Value}
    {f_are_members : Addr} {od_are_members an_are_members : Option Addr} {sl_are_members : Array (Option Value)} {oc_are_members kV_are_members dc_are_members pm_are_members cd_are_members ct_are_members : Value}
    {f_are_years : Addr} {od_are_years an_are_years : Option Addr} {sl_are_years : Array (Option Value)} {oc_are_years kV_are_years dc_are_years pm_are_years cd_are_years ct_are_years : Value}
    {f_is_circle : Addr} {od_is_circle an_is_circle : Option Addr} {sl_is_circle : Array (Option Value)} {oc_is_circle kV_is_circle dc_is_circle pm_is_circle cd_is_circle ct_is_circle : Value}
    {f_Circle___init__ : Addr} {od_Circle___init__ an_Circle___init__ : Option Addr} {sl_Circle___init__ : Array (Option Value)} {oc_Circle___init__ kV_Circle___init__ dc_Circle___init__ pm_Circle___init__ cd_Circle___init__ ct_Circle___init__ : Value}
    {dV_Circle___init__ : Value}
    {f_Circle___eq__ : Addr} {od_Circle___eq__ an_Circle___eq__ : Option Addr} {sl_Circle___eq__ : Array (Option Value)} {oc_Circle___eq__ kV_Circle___eq__ dc_Circle___eq__ pm_Circle___eq__ cd_Circle___eq__ ct_Circle___eq__ : Value}
    {f_Circle_names : Addr} {od_Circle_names an_Circle_names : Option Addr} {sl_Circle_names : Array (Option Value)} {oc_Circle_names kV_Circle_names dc_Circle_names pm_Circle_names cd_Circle_names ct_Circle_names : Value}
    {f_Circle_house_of : Addr} {od_Circle_house_of an_Circle_house_of : Option Addr} {sl_Circle_house_of : Array (Option Value)} {oc_Circle_house_of kV_Circle_house_of dc_Circle_house_of pm_Circle_house_of cd_Circle_house_of ct_Circle_house_of : Value}
    {f_Circle_reason : Addr} {od_Circle_reason an_Circle_reason : Option Addr} {sl_Circle_reason : Array (Option Value)} {oc_Circle_reason kV_Circle_reason dc_Circle_reason pm_Circle_reason cd_Circle_reason ct_Circle_reason : Value}
    {f_Circle_takers : Addr} {od_Circle_takers an_Circle_takers : Option Addr} {sl_Circle_takers : Array (Option Value)} {oc_Circle_takers kV_Circle_takers dc_Circle_takers pm_Circle_takers cd_Circle_takers ct_Circle_takers : Value}
    {f_Circle_givers : Addr} {od_Circle_givers an_Circle_givers : Option Addr} {sl_Circle_givers : Array (Option Value)} {oc_Circle_givers kV_Circle_givers dc_Circle_givers pm_Circle_givers cd_Circle_givers ct_Circle_givers : Value}
    {f_without : Addr} {od_without an_without : Option Addr} {sl_without : Array (Option Value)} {oc_without kV_without dc_without pm_without cd_without ct_without : Value}
    {f_with_one : Addr} {od_with_one an_with_one : Option Addr} {sl_with_one : Array (Option Value)} {oc_with_one kV_with_one dc_with_one pm_with_one cd_with_one ct_with_one : Value}
    {f_are_drawn : Addr} {od_are_drawn an_are_drawn : Option Addr} {sl_are_drawn : Array (Option Value)} {oc_are_drawn kV_are_drawn dc_are_drawn pm_are_drawn cd_are_drawn ct_are_drawn : Value}
    {f_Drawing___init__ : Addr} {od_Drawing___init__ an_Drawing___init__ : Option Addr} {sl_Drawing___init__ : Array (Option Value)} {oc_Drawing___init__ kV_Drawing___init__ dc_Drawing___init__ pm_Drawing___init__ cd_Drawing___init__ ct_Drawing___init__ : Value}
    {f_Drawing_taker_of : Addr} {od_Drawing_taker_of an_Drawing_taker_of : Option Addr} {sl_Drawing_taker_of : Array (Option Value)} {oc_Drawing_taker_of kV_Drawing_taker_of dc_Drawing_taker_of pm_Drawing_taker_of cd_Drawing_taker_of ct_Drawing_taker_of : Value}
    {f_Drawing_giver_of : Addr} {od_Drawing_giver_of an_Drawing_giver_of : Option Addr} {sl_Drawing_giver_of : Array (Option Value)} {oc_Drawing_giver_of kV_Drawing_giver_of dc_Drawing_giver_of pm_Drawing_giver_of cd_Drawing_giver_of ct_Drawing_giver_of : Value}
    {f_keeps : Addr} {od_keeps an_keeps : Option Addr} {sl_keeps : Array (Option Value)} {oc_keeps kV_keeps dc_keeps pm_keeps cd_keeps ct_keeps : Value}
    {f_broken : Addr} {od_broken an_broken : Option Addr} {sl_broken : Array (Option Value)} {oc_broken kV_broken dc_broken pm_broken cd_broken ct_broken : Value}
    {f__law_blend : Addr} {od__law_blend an__law_blend : Option Addr} {sl__law_blend : Array (Option Value)} {oc__law_blend kV__law_blend dc__law_blend pm__law_blend cd__law_blend ct__law_blend : Value}
    {f__law_pot : Addr} {od__law_pot an__law_pot : Option Addr} {sl__law_pot : Array (Option Value)} {oc__law_pot kV__law_pot dc__law_pot pm__law_pot cd__law_pot ct__law_pot : Value}
    {f__law_draw : Addr} {od__law_draw an__law_draw : Option Addr} {sl__law_draw : Array (Option Value)} {oc__law_draw kV__law_draw dc__law_draw pm__law_draw cd__law_draw ct__law_draw : Value}
    {f__law_four : Addr} {od__law_four an__law_four : Option Addr} {sl__law_four : Array (Option Value)} {oc__law_four kV__law_four dc__law_four pm__law_four cd__law_four ct__law_four : Value}
    {f__law_circle_right : Addr} {od__law_circle_right an__law_circle_right : Option Addr} {sl__law_circle_right : Array (Option Value)} {oc__law_circle_right kV__law_circle_right dc__law_circle_right pm__law_circle_right cd__law_circle_right ct__law_circle_right : Value}
    {f__law_drawing_right : Addr} {od__law_drawing_right an__law_drawing_right : Option Addr} {sl__law_drawing_right : Array (Option Value)} {oc__law_drawing_right kV__law_drawing_right dc__law_drawing_right pm__law_drawing_right cd__law_drawing_right ct__law_drawing_right : Value}
    {f_law : Addr} {od_law an_law : Option Addr} {sl_law : Array (Option Value)} {oc_law kV_law dc_law pm_law cd_law ct_law : Value}
    {tk_LETTERS : Tok}
    {tk_MOST_LETTERS : Tok}
    {tk_MOST_FIGURES : Tok}
    (aC_Circle : PySem.W.nsIn K mainGlobals "Circle" = some (some (.ref C_Circle)))
    (aC_Drawing : PySem.W.nsIn K mainGlobals "Drawing" = some (some (.ref C_Drawing)))
    (a_is_name : PySem.W.nsIn K mainGlobals "is_name" = some (some (.ref f_is_name)))
    (l_is_name : K.lookup f_is_name = some ⟨oc_is_name, od_is_name, .func (PySem.W.fnOf "is_name" "is_name" (defArgs s_is_name) (defBody s_is_name) (defScope s_is_name) .none kV_is_name dc_is_name pm_is_name an_is_name cd_is_name ct_is_name), sl_is_name⟩)
    (c_is_name : PySem.W.codeIn K cd_is_name "is_name" = true)
    (k_is_name : PySem.W.keepIn K (.ref f_is_name) = true)
    (a_is_pair : PySem.W.nsIn K mainGlobals "is_pair" = some (some (.ref f_is_pair)))
    (l_is_pair : K.lookup f_is_pair = some ⟨oc_is_pair, od_is_pair, .func (PySem.W.fnOf "is_pair" "is_pair" (defArgs s_is_pair) (defBody s_is_pair) (defScope s_is_pair) .none kV_is_pair dc_is_pair pm_is_pair an_is_pair cd_is_pair ct_is_pair), sl_is_pair⟩)
    (c_is_pair : PySem.W.codeIn K cd_is_pair "is_pair" = true)
    (k_is_pair : PySem.W.keepIn K (.ref f_is_pair) = true)
    (a_does_rise : PySem.W.nsIn K mainGlobals "does_rise" = some (some (.ref f_does_rise)))
    (l_does_rise : K.lookup f_does_rise = some ⟨oc_does_rise, od_does_rise, .func (PySem.W.fnOf "does_rise" "does_rise" (defArgs s_does_rise) (defBody s_does_rise) (defScope s_does_rise) .none kV_does_rise dc_does_rise pm_does_rise an_does_rise cd_does_rise ct_does_rise), sl_does_rise⟩)
    (c_does_rise : PySem.W.codeIn K cd_does_rise "does_rise" = true)
    (k_does_rise : PySem.W.keepIn K (.ref f_does_rise) = true)
    (a_are_pairs : PySem.W.nsIn K mainGlobals "are_pairs" = some (some (.ref f_are_pairs)))
    (l_are_pairs : K.lookup f_are_pairs = some ⟨oc_are_pairs, od_are_pairs, .func (PySem.W.fnOf "are_pairs" "are_pairs" (defArgs s_are_pairs) (defBody s_are_pairs) (defScope s_are_pairs) .none kV_are_pairs dc_are_pairs pm_are_pairs an_are_pairs cd_are_pairs ct_are_pairs), sl_are_pairs⟩)
    (c_are_pairs : PySem.W.codeIn K cd_are_pairs "are_pairs" = true)
    (k_are_pairs : PySem.W.keepIn K (.ref f_are_pairs) = true)
    (a_is_member : PySem.W.nsIn K mainGlobals "is_member" = some (some (.ref f_is_member)))
    (l_is_member : K.lookup f_is_member = some ⟨oc_is_member, od_is_member, .func (PySem.W.fnOf "is_member" "is_member" (defArgs s_is_member) (defBody s_is_member) (defScope s_is_member) .none kV_is_member dc_is_member pm_is_member an_is_member cd_is_member ct_is_member), sl_is_member⟩)
    (c_is_member : PySem.W.codeIn K cd_is_member "is_member" = true)
    (k_is_member : PySem.W.keepIn K (.ref f_is_member) = true)
    (a_are_members : PySem.W.nsIn K mainGlobals "are_members" = some (some (.ref f_are_members)))
    (l_are_members : K.lookup f_are_members = some ⟨oc_are_members, od_are_members, .func (PySem.W.fnOf "are_members" "are_members" (defArgs s_are_members) (defBody s_are_members) (defScope s_are_members) .none kV_are_members dc_are_members pm_are_members an_are_members cd_are_members ct_are_members), sl_are_members⟩)
    (c_are_members : PySem.W.codeIn K cd_are_members "are_members" = true)
    (k_are_members : PySem.W.keepIn K (.ref f_are_members) = true)
    (a_are_years : PySem.W.nsIn K mainGlobals "are_years" = some (some (.ref f_are_years)))
    (l_are_years : K.lookup f_are_years = some ⟨oc_are_years, od_are_years, .func (PySem.W.fnOf "are_years" "are_years" (defArgs s_are_years) (defBody s_are_years) (defScope s_are_years) .none kV_are_years dc_are_years pm_are_years an_are_years cd_are_years ct_are_years), sl_are_years⟩)
    (c_are_years : PySem.W.codeIn K cd_are_years "are_years" = true)
    (k_are_years : PySem.W.keepIn K (.ref f_are_years) = true)
    (a_is_circle : PySem.W.nsIn K mainGlobals "is_circle" = some (some (.ref f_is_circle)))
    (l_is_circle : K.lookup f_is_circle = some ⟨oc_is_circle, od_is_circle, .func (PySem.W.fnOf "is_circle" "is_circle" (defArgs s_is_circle) (defBody s_is_circle) (defScope s_is_circle) .none kV_is_circle dc_is_circle pm_is_circle an_is_circle cd_is_circle ct_is_circle), sl_is_circle⟩)
    (c_is_circle : PySem.W.codeIn K cd_is_circle "is_circle" = true)
    (k_is_circle : PySem.W.keepIn K (.ref f_is_circle) = true)
    (a_Circle___init__ : PySem.W.findIn K (.ref C_Circle) "__init__" = some (some (.ref f_Circle___init__)))
    (i_Circle___init__ : PySem.W.isFn K (.ref f_Circle___init__) = true)
    (l_Circle___init__ : K.lookup f_Circle___init__ = some ⟨oc_Circle___init__, od_Circle___init__, .func (PySem.W.fnOf "__init__" "Circle.__init__" (defArgs s_Circle___init__) (defBody s_Circle___init__) (defScope s_Circle___init__) dV_Circle___init__ kV_Circle___init__ dc_Circle___init__ pm_Circle___init__ an_Circle___init__ cd_Circle___init__ ct_Circle___init__), sl_Circle___init__⟩)
    (c_Circle___init__ : PySem.W.codeIn K cd_Circle___init__ "Circle.__init__" = true)
    (k_Circle___init__ : PySem.W.keepIn K (.ref f_Circle___init__) = true)
    (dv_Circle___init__ : DflV K dV_Circle___init__ [.non, .non, .int 1])
    (a_Circle___eq__ : PySem.W.findIn K (.ref C_Circle) "__eq__" = some (some (.ref f_Circle___eq__)))
    (i_Circle___eq__ : PySem.W.isFn K (.ref f_Circle___eq__) = true)
    (l_Circle___eq__ : K.lookup f_Circle___eq__ = some ⟨oc_Circle___eq__, od_Circle___eq__, .func (PySem.W.fnOf "__eq__" "Circle.__eq__" (defArgs s_Circle___eq__) (defBody s_Circle___eq__) (defScope s_Circle___eq__) .none kV_Circle___eq__ dc_Circle___eq__ pm_Circle___eq__ an_Circle___eq__ cd_Circle___eq__ ct_Circle___eq__), sl_Circle___eq__⟩)
    (c_Circle___eq__ : PySem.W.codeIn K cd_Circle___eq__ "Circle.__eq__" = true)
    (k_Circle___eq__ : PySem.W.keepIn K (.ref f_Circle___eq__) = true)
    (a_Circle_names : PySem.W.findIn K (.ref C_Circle) "names" = some (some (.ref f_Circle_names)))
    (i_Circle_names : PySem.W.isFn K (.ref f_Circle_names) = true)
    (l_Circle_names : K.lookup f_Circle_names = some ⟨oc_Circle_names, od_Circle_names, .func (PySem.W.fnOf "names" "Circle.names" (defArgs s_Circle_names) (defBody s_Circle_names) (defScope s_Circle_names) .none kV_Circle_names dc_Circle_names pm_Circle_names an_Circle_names cd_Circle_names ct_Circle_names), sl_Circle_names⟩)
    (c_Circle_names : PySem.W.codeIn K cd_Circle_names "Circle.names" = true)
    (k_Circle_names : PySem.W.keepIn K (.ref f_Circle_names) = true)
    (a_Circle_house_of : PySem.W.findIn K (.ref C_Circle) "house_of" = some (some (.ref f_Circle_house_of)))
    (i_Circle_house_of : PySem.W.isFn K (.ref f_Circle_house_of) = true)
    (l_Circle_house_of : K.lookup f_Circle_house_of = some ⟨oc_Circle_house_of, od_Circle_house_of, .func (PySem.W.fnOf "house_of" "Circle.house_of" (defArgs s_Circle_house_of) (defBody s_Circle_house_of) (defScope s_Circle_house_of) .none kV_Circle_house_of dc_Circle_house_of pm_Circle_house_of an_Circle_house_of cd_Circle_house_of ct_Circle_house_of), sl_Circle_house_of⟩)
    (c_Circle_house_of : PySem.W.codeIn K cd_Circle_house_of "Circle.house_of" = true)
    (k_Circle_house_of : PySem.W.keepIn K (.ref f_Circle_house_of) = true)
    (a_Circle_reason : PySem.W.findIn K (.ref C_Circle) "reason" = some (some (.ref f_Circle_reason)))
    (i_Circle_reason : PySem.W.isFn K (.ref f_Circle_reason) = true)
    (l_Circle_reason : K.lookup f_Circle_reason = some ⟨oc_Circle_reason, od_Circle_reason, .func (PySem.W.fnOf "reason" "Circle.reason" (defArgs s_Circle_reason) (defBody s_Circle_reason) (defScope s_Circle_reason) .none kV_Circle_reason dc_Circle_reason pm_Circle_reason an_Circle_reason cd_Circle_reason ct_Circle_reason), sl_Circle_reason⟩)
    (c_Circle_reason : PySem.W.codeIn K cd_Circle_reason "Circle.reason" = true)
    (k_Circle_reason : PySem.W.keepIn K (.ref f_Circle_reason) = true)
    (a_Circle_takers : PySem.W.findIn K (.ref C_Circle) "takers" = some (some (.ref f_Circle_takers)))
    (i_Circle_takers : PySem.W.isFn K (.ref f_Circle_takers) = true)
    (l_Circle_takers : K.lookup f_Circle_takers = some ⟨oc_Circle_takers, od_Circle_takers, .func (PySem.W.fnOf "takers" "Circle.takers" (defArgs s_Circle_takers) (defBody s_Circle_takers) (defScope s_Circle_takers) .none kV_Circle_takers dc_Circle_takers pm_Circle_takers an_Circle_takers cd_Circle_takers ct_Circle_takers), sl_Circle_takers⟩)
    (c_Circle_takers : PySem.W.codeIn K cd_Circle_takers "Circle.takers" = true)
    (k_Circle_takers : PySem.W.keepIn K (.ref f_Circle_takers) = true)
    (a_Circle_givers : PySem.W.findIn K (.ref C_Circle) "givers" = some (some (.ref f_Circle_givers)))
    (i_Circle_givers : PySem.W.isFn K (.ref f_Circle_givers) = true)
    (l_Circle_givers : K.lookup f_Circle_givers = some ⟨oc_Circle_givers, od_Circle_givers, .func (PySem.W.fnOf "givers" "Circle.givers" (defArgs s_Circle_givers) (defBody s_Circle_givers) (defScope s_Circle_givers) .none kV_Circle_givers dc_Circle_givers pm_Circle_givers an_Circle_givers cd_Circle_givers ct_Circle_givers), sl_Circle_givers⟩)
    (c_Circle_givers : PySem.W.codeIn K cd_Circle_givers "Circle.givers" = true)
    (k_Circle_givers : PySem.W.keepIn K (.ref f_Circle_givers) = true)
    (a_without : PySem.W.nsIn K mainGlobals "without" = some (some (.ref f_without)))
    (l_without : K.lookup f_without = some ⟨oc_without, od_without, .func (PySem.W.fnOf "without" "without" (defArgs s_without) (defBody s_without) (defScope s_without) .none kV_without dc_without pm_without an_without cd_without ct_without), sl_without⟩)
    (c_without : PySem.W.codeIn K cd_without "without" = true)
    (k_without : PySem.W.keepIn K (.ref f_without) = true)
    (a_with_one : PySem.W.nsIn K mainGlobals "with_one" = some (some (.ref f_with_one)))
    (l_with_one : K.lookup f_with_one = some ⟨oc_with_one, od_with_one, .func (PySem.W.fnOf "with_one" "with_one" (defArgs s_with_one) (defBody s_with_one) (defScope s_with_one) .none kV_with_one dc_with_one pm_with_one an_with_one cd_with_one ct_with_one), sl_with_one⟩)
    (c_with_one : PySem.W.codeIn K cd_with_one "with_one" = true)
    (k_with_one : PySem.W.keepIn K (.ref f_with_one) = true)
    (a_are_drawn : PySem.W.nsIn K mainGlobals "are_drawn" = some (some (.ref f_are_drawn)))
    (l_are_drawn : K.lookup f_are_drawn = some ⟨oc_are_drawn, od_are_drawn, .func (PySem.W.fnOf "are_drawn" "are_drawn" (defArgs s_are_drawn) (defBody s_are_drawn) (defScope s_are_drawn) .none kV_are_drawn dc_are_drawn pm_are_drawn an_are_drawn cd_are_drawn ct_are_drawn), sl_are_drawn⟩)
    (c_are_drawn : PySem.W.codeIn K cd_are_drawn "are_drawn" = true)
    (k_are_drawn : PySem.W.keepIn K (.ref f_are_drawn) = true)
    (a_Drawing___init__ : PySem.W.findIn K (.ref C_Drawing) "__init__" = some (some (.ref f_Drawing___init__)))
    (i_Drawing___init__ : PySem.W.isFn K (.ref f_Drawing___init__) = true)
    (l_Drawing___init__ : K.lookup f_Drawing___init__ = some ⟨oc_Drawing___init__, od_Drawing___init__, .func (PySem.W.fnOf "__init__" "Drawing.__init__" (defArgs s_Drawing___init__) (defBody s_Drawing___init__) (defScope s_Drawing___init__) .none kV_Drawing___init__ dc_Drawing___init__ pm_Drawing___init__ an_Drawing___init__ cd_Drawing___init__ ct_Drawing___init__), sl_Drawing___init__⟩)
    (c_Drawing___init__ : PySem.W.codeIn K cd_Drawing___init__ "Drawing.__init__" = true)
    (k_Drawing___init__ : PySem.W.keepIn K (.ref f_Drawing___init__) = true)
    (a_Drawing_taker_of : PySem.W.findIn K (.ref C_Drawing) "taker_of" = some (some (.ref f_Drawing_taker_of)))
    (i_Drawing_taker_of : PySem.W.isFn K (.ref f_Drawing_taker_of) = true)
    (l_Drawing_taker_of : K.lookup f_Drawing_taker_of = some ⟨oc_Drawing_taker_of, od_Drawing_taker_of, .func (PySem.W.fnOf "taker_of" "Drawing.taker_of" (defArgs s_Drawing_taker_of) (defBody s_Drawing_taker_of) (defScope s_Drawing_taker_of) .none kV_Drawing_taker_of dc_Drawing_taker_of pm_Drawing_taker_of an_Drawing_taker_of cd_Drawing_taker_of ct_Drawing_taker_of), sl_Drawing_taker_of⟩)
    (c_Drawing_taker_of : PySem.W.codeIn K cd_Drawing_taker_of "Drawing.taker_of" = true)
    (k_Drawing_taker_of : PySem.W.keepIn K (.ref f_Drawing_taker_of) = true)
    (a_Drawing_giver_of : PySem.W.findIn K (.ref C_Drawing) "giver_of" = some (some (.ref f_Drawing_giver_of)))
    (i_Drawing_giver_of : PySem.W.isFn K (.ref f_Drawing_giver_of) = true)
    (l_Drawing_giver_of : K.lookup f_Drawing_giver_of = some ⟨oc_Drawing_giver_of, od_Drawing_giver_of, .func (PySem.W.fnOf "giver_of" "Drawing.giver_of" (defArgs s_Drawing_giver_of) (defBody s_Drawing_giver_of) (defScope s_Drawing_giver_of) .none kV_Drawing_giver_of dc_Drawing_giver_of pm_Drawing_giver_of an_Drawing_giver_of cd_Drawing_giver_of ct_Drawing_giver_of), sl_Drawing_giver_of⟩)
    (c_Drawing_giver_of : PySem.W.codeIn K cd_Drawing_giver_of "Drawing.giver_of" = true)
    (k_Drawing_giver_of : PySem.W.keepIn K (.ref f_Drawing_giver_of) = true)
    (a_keeps : PySem.W.nsIn K mainGlobals "keeps" = some (some (.ref f_keeps)))
    (l_keeps : K.lookup f_keeps = some ⟨oc_keeps, od_keeps, .func (PySem.W.fnOf "keeps" "keeps" (defArgs s_keeps) (defBody s_keeps) (defScope s_keeps) .none kV_keeps dc_keeps pm_keeps an_keeps cd_keeps ct_keeps), sl_keeps⟩)
    (c_keeps : PySem.W.codeIn K cd_keeps "keeps" = true)
    (k_keeps : PySem.W.keepIn K (.ref f_keeps) = true)
    (a_broken : PySem.W.nsIn K mainGlobals "broken" = some (some (.ref f_broken)))
    (l_broken : K.lookup f_broken = some ⟨oc_broken, od_broken, .func (PySem.W.fnOf "broken" "broken" (defArgs s_broken) (defBody s_broken) (defScope s_broken) .none kV_broken dc_broken pm_broken an_broken cd_broken ct_broken), sl_broken⟩)
    (c_broken : PySem.W.codeIn K cd_broken "broken" = true)
    (k_broken : PySem.W.keepIn K (.ref f_broken) = true)
    (a__law_blend : PySem.W.nsIn K mainGlobals "_law_blend" = some (some (.ref f__law_blend)))
    (l__law_blend : K.lookup f__law_blend = some ⟨oc__law_blend, od__law_blend, .func (PySem.W.fnOf "_law_blend" "_law_blend" (defArgs s__law_blend) (defBody s__law_blend) (defScope s__law_blend) .none kV__law_blend dc__law_blend pm__law_blend an__law_blend cd__law_blend ct__law_blend), sl__law_blend⟩)
    (c__law_blend : PySem.W.codeIn K cd__law_blend "_law_blend" = true)
    (k__law_blend : PySem.W.keepIn K (.ref f__law_blend) = true)
    (a__law_pot : PySem.W.nsIn K mainGlobals "_law_pot" = some (some (.ref f__law_pot)))
    (l__law_pot : K.lookup f__law_pot = some ⟨oc__law_pot, od__law_pot, .func (PySem.W.fnOf "_law_pot" "_law_pot" (defArgs s__law_pot) (defBody s__law_pot) (defScope s__law_pot) .none kV__law_pot dc__law_pot pm__law_pot an__law_pot cd__law_pot ct__law_pot), sl__law_pot⟩)
    (c__law_pot : PySem.W.codeIn K cd__law_pot "_law_pot" = true)
    (k__law_pot : PySem.W.keepIn K (.ref f__law_pot) = true)
    (a__law_draw : PySem.W.nsIn K mainGlobals "_law_draw" = some (some (.ref f__law_draw)))
    (l__law_draw : K.lookup f__law_draw = some ⟨oc__law_draw, od__law_draw, .func (PySem.W.fnOf "_law_draw" "_law_draw" (defArgs s__law_draw) (defBody s__law_draw) (defScope s__law_draw) .none kV__law_draw dc__law_draw pm__law_draw an__law_draw cd__law_draw ct__law_draw), sl__law_draw⟩)
    (c__law_draw : PySem.W.codeIn K cd__law_draw "_law_draw" = true)
    (k__law_draw : PySem.W.keepIn K (.ref f__law_draw) = true)
    (a__law_four : PySem.W.nsIn K mainGlobals "_law_four" = some (some (.ref f__law_four)))
    (l__law_four : K.lookup f__law_four = some ⟨oc__law_four, od__law_four, .func (PySem.W.fnOf "_law_four" "_law_four" (defArgs s__law_four) (defBody s__law_four) (defScope s__law_four) .none kV__law_four dc__law_four pm__law_four an__law_four cd__law_four ct__law_four), sl__law_four⟩)
    (c__law_four : PySem.W.codeIn K cd__law_four "_law_four" = true)
    (k__law_four : PySem.W.keepIn K (.ref f__law_four) = true)
    (a__law_circle_right : PySem.W.nsIn K mainGlobals "_law_circle_right" = some (some (.ref f__law_circle_right)))
    (l__law_circle_right : K.lookup f__law_circle_right = some ⟨oc__law_circle_right, od__law_circle_right, .func (PySem.W.fnOf "_law_circle_right" "_law_circle_right" (defArgs s__law_circle_right) (defBody s__law_circle_right) (defScope s__law_circle_right) .none kV__law_circle_right dc__law_circle_right pm__law_circle_right an__law_circle_right cd__law_circle_right ct__law_circle_right), sl__law_circle_right⟩)
    (c__law_circle_right : PySem.W.codeIn K cd__law_circle_right "_law_circle_right" = true)
    (k__law_circle_right : PySem.W.keepIn K (.ref f__law_circle_right) = true)
    (a__law_drawing_right : PySem.W.nsIn K mainGlobals "_law_drawing_right" = some (some (.ref f__law_drawing_right)))
    (l__law_drawing_right : K.lookup f__law_drawing_right = some ⟨oc__law_drawing_right, od__law_drawing_right, .func (PySem.W.fnOf "_law_drawing_right" "_law_drawing_right" (defArgs s__law_drawing_right) (defBody s__law_drawing_right) (defScope s__law_drawing_right) .none kV__law_drawing_right dc__law_drawing_right pm__law_drawing_right an__law_drawing_right cd__law_drawing_right ct__law_drawing_right), sl__law_drawing_right⟩)
    (c__law_drawing_right : PySem.W.codeIn K cd__law_drawing_right "_law_drawing_right" = true)
    (k__law_drawing_right : PySem.W.keepIn K (.ref f__law_drawing_right) = true)
    (a_law : PySem.W.nsIn K mainGlobals "law" = some (some (.ref f_law)))
    (l_law : K.lookup f_law = some ⟨oc_law, od_law, .func (PySem.W.fnOf "law" "law" (defArgs s_law) (defBody s_law) (defScope s_law) .none kV_law dc_law pm_law an_law cd_law ct_law), sl_law⟩)
    (c_law : PySem.W.codeIn K cd_law "law" = true)
    (k_law : PySem.W.keepIn K (.ref f_law) = true)
    (pg_Circle : PySem.W.plainGet K C_Circle Str.empty = true)
    (hd_Circle : PySem.W.hasDictIn K C_Circle = true)
    (po_Circle : PySem.W.plainOver K C_Circle = true)
    (sa_Circle : PySem.W.findIn K (.ref C_Circle) "__setattr__" = some (some (.builtin "object.__setattr__")))
    (mkk_Circle : PySem.W.makesIn K C_Circle = true)
    (kc_Circle : PySem.W.keepIn K (.ref C_Circle) = true)
    (ha_Circle : PySem.W.findIn K (.ref C_Circle) "__class__" = some (some (.builtin "object.__class__")))
    (hn_Circle : PySem.W.specialIn K (.builtin "object.__class__") "__get__" = some (some (.builtin "getset_descriptor.__get__")))
    (ht_Circle : PySem.W.takesIn K (.builtin "object.__class__") = some true)
    (hm_Circle : PySem.W.mroIn K C_Circle (.type "object") = some true)
    (na_Circle_members : PySem.W.findIn K (.ref C_Circle) "members" = some none)
    (na_Circle_bars : PySem.W.findIn K (.ref C_Circle) "bars" = some none)
    (na_Circle_past : PySem.W.findIn K (.ref C_Circle) "past" = some none)
    (na_Circle_gap : PySem.W.findIn K (.ref C_Circle) "gap" = some none)
    (na_Circle_houses : PySem.W.findIn K (.ref C_Circle) "houses" = some none)
    (na_Circle_names_told : PySem.W.findIn K (.ref C_Circle) "names_told" = some none)
    (na_Circle_barred : PySem.W.findIn K (.ref C_Circle) "barred" = some none)
    (na_Circle_gone_by : PySem.W.findIn K (.ref C_Circle) "gone_by" = some none)
    (pg_Drawing : PySem.W.plainGet K C_Drawing Str.empty = true)
    (hd_Drawing : PySem.W.hasDictIn K C_Drawing = true)
    (po_Drawing : PySem.W.plainOver K C_Drawing = true)
    (sa_Drawing : PySem.W.findIn K (.ref C_Drawing) "__setattr__" = some (some (.builtin "object.__setattr__")))
    (mkk_Drawing : PySem.W.makesIn K C_Drawing = true)
    (kc_Drawing : PySem.W.keepIn K (.ref C_Drawing) = true)
    (ha_Drawing : PySem.W.findIn K (.ref C_Drawing) "__class__" = some (some (.builtin "object.__class__")))
    (hn_Drawing : PySem.W.specialIn K (.builtin "object.__class__") "__get__" = some (some (.builtin "getset_descriptor.__get__")))
    (ht_Drawing : PySem.W.takesIn K (.builtin "object.__class__") = some true)
    (hm_Drawing : PySem.W.mroIn K C_Drawing (.type "object") = some true)
    (na_Drawing_pairs : PySem.W.findIn K (.ref C_Drawing) "pairs" = some none)
    (g_LETTERS : PySem.W.nsIn K mainGlobals "LETTERS" = some (some (.str "abcdefghijklmnopqrstuvwxyz" tk_LETTERS)))
    (g_MOST_LETTERS : PySem.W.nsIn K mainGlobals "MOST_LETTERS" = some (some (.int 12 tk_MOST_LETTERS)))
    (g_MOST_FIGURES : PySem.W.nsIn K mainGlobals "MOST_FIGURES" = some (some (.int 30 tk_MOST_FIGURES)))
    (n_len : PySem.W.nsIn K mainGlobals "len" = some none)
    (n_abs : PySem.W.nsIn K mainGlobals "abs" = some none)
    (n_all : PySem.W.nsIn K mainGlobals "all" = some none)
    (n_range : PySem.W.nsIn K mainGlobals "range" = some none)
    (n_isinstance : PySem.W.nsIn K mainGlobals "isinstance" = some none)
    (n_list : PySem.W.nsIn K mainGlobals "list" = some none)
    (n_tuple : PySem.W.nsIn K mainGlobals "tuple" = some none)
    (n_str : PySem.W.nsIn K mainGlobals "str" = some none)
    (n_sorted : PySem.W.nsIn K mainGlobals "sorted" = some none)
    (n_zip : PySem.W.nsIn K mainGlobals "zip" = some none)
    (n_set : PySem.W.nsIn K mainGlobals "set" = some none)
    (n_max : PySem.W.nsIn K mainGlobals "max" = some none)
    (n_dict : PySem.W.nsIn K mainGlobals "dict" = some none)
    (n_int : PySem.W.nsIn K mainGlobals "int" = some none)
    (n_bool : PySem.W.nsIn K mainGlobals "bool" = some none) : T10 K mg := {
  C_Circle := C_Circle
  C_Drawing := C_Drawing
  f_is_name := f_is_name
  fd_is_name := _
  F_is_name := fun_mk (st := s_is_name) l_is_name c_is_name k_is_name
  b_is_name := (fun_mk (st := s_is_name) l_is_name c_is_name k_is_name).binds (ps := ["thing"]) fun _ _ _ _ _ _ us hl => match us, hl with | [_], _ => rfl
  mg_is_name := PySem.W.mg_of X G a_is_name
  f_is_pair := f_is_pair
  fd_is_pair := _
  F_is_pair := fun_mk (st := s_is_pair) l_is_pair c_is_pair k_is_pair
  b_is_pair := (fun_mk (st := s_is_pair) l_is_pair c_is_pair k_is_pair).binds (ps := ["thing"]) fun _ _ _ _ _ _ us hl => match us, hl with | [_], _ => rfl
  mg_is_pair := PySem.W.mg_of X G a_is_pair
  f_does_rise := f_does_rise
  fd_does_rise := _
  F_does_rise := fun_mk (st := s_does_rise) l_does_rise c_does_rise k_does_rise
  b_does_rise := (fun_mk (st := s_does_rise) l_does_rise c_does_rise k_does_rise).binds (ps := ["things"]) fun _ _ _ _ _ _ us hl => match us, hl with | [_], _ => rfl
  mg_does_rise := PySem.W.mg_of X G a_does_rise
  f_are_pairs := f_are_pairs
  fd_are_pairs := _
  F_are_pairs := fun_mk (st := s_are_pairs) l_are_pairs c_are_pairs k_are_pairs
  b_are_pairs := (fun_mk (st := s_are_pairs) l_are_pairs c_are_pairs k_are_pairs).binds (ps := ["thing"]) fun _ _ _ _ _ _ us hl => match us, hl with | [_], _ => rfl
  mg_are_pairs := PySem.W.mg_of X G a_are_pairs
  f_is_member := f_is_member
  fd_is_member := _
  F_is_member := fun_mk (st := s_is_member) l_is_member c_is_member k_is_member
  b_is_member := (fun_mk (st := s_is_member) l_is_member c_is_member k_is_member).binds (ps := ["thing"]) fun _ _ _ _ _ _ us hl => match us, hl with | [_], _ => rfl
  mg_is_member := PySem.W.mg_of X G a_is_member
  f_are_members := f_are_members
  fd_are_members := _
  F_are_members := fun_mk (st := s_are_members) l_are_members c_are_members k_are_members
  b_are_members := (fun_mk (st := s_are_members) l_are_members c_are_members k_are_members).binds (ps := ["thing"]) fun _ _ _ _ _ _ us hl => match us, hl with | [_], _ => rfl
  mg_are_members := PySem.W.mg_of X G a_are_members
  f_are_years := f_are_years
  fd_are_years := _
  F_are_years := fun_mk (st := s_are_years) l_are_years c_are_years k_are_years
  b_are_years := (fun_mk (st := s_are_years) l_are_years c_are_years k_are_years).binds (ps := ["thing"]) fun _ _ _ _ _ _ us hl => match us, hl with | [_], _ => rfl
  mg_are_years := PySem.W.mg_of X G a_are_years
  f_is_circle := f_is_circle
  fd_is_circle := _
  F_is_circle := fun_mk (st := s_is_circle) l_is_circle c_is_circle k_is_circle
  b_is_circle := (fun_mk (st := s_is_circle) l_is_circle c_is_circle k_is_circle).binds (ps := ["members", "bars", "past", "gap"]) fun _ _ _ _ _ _ us hl => match us, hl with | [_, _, _, _], _ => rfl
  mg_is_circle := PySem.W.mg_of X G a_is_circle
  f_Circle___init__ := f_Circle___init__
  fd_Circle___init__ := _
  F_Circle___init__ := ⟨⟨oc_Circle___init__, od_Circle___init__, dV_Circle___init__, kV_Circle___init__, dc_Circle___init__, pm_Circle___init__, an_Circle___init__, cd_Circle___init__, ct_Circle___init__, sl_Circle___init__, rfl, l_Circle___init__, c_Circle___init__, dv_Circle___init__, .inl rfl⟩, k_Circle___init__⟩
  a_Circle___init__ := a_Circle___init__
  i_Circle___init__ := i_Circle___init__
  f_Circle___eq__ := f_Circle___eq__
  fd_Circle___eq__ := _
  F_Circle___eq__ := fun_mk (st := s_Circle___eq__) l_Circle___eq__ c_Circle___eq__ k_Circle___eq__
  b_Circle___eq__ := (fun_mk (st := s_Circle___eq__) l_Circle___eq__ c_Circle___eq__ k_Circle___eq__).binds (ps := ["self", "other"]) fun _ _ _ _ _ _ us hl => match us, hl with | [_, _], _ => rfl
  a_Circle___eq__ := a_Circle___eq__
  i_Circle___eq__ := i_Circle___eq__
  f_Circle_names := f_Circle_names
  fd_Circle_names := _
  F_Circle_names := fun_mk (st := s_Circle_names) l_Circle_names c_Circle_names k_Circle_names
  b_Circle_names := (fun_mk (st := s_Circle_names) l_Circle_names c_Circle_names k_Circle_names).binds (ps := ["self"]) fun _ _ _ _ _ _ us hl => match us, hl with | [_], _ => rfl
  a_Circle_names := a_Circle_names
  i_Circle_names := i_Circle_names
  mt_Circle_names := ⟨a_Circle_names, i_Circle_names, k_Circle_names⟩
  f_Circle_house_of := f_Circle_house_of
  fd_Circle_house_of := _
  F_Circle_house_of := fun_mk (st := s_Circle_house_of) l_Circle_house_of c_Circle_house_of k_Circle_house_of
  b_Circle_house_of := (fun_mk (st := s_Circle_house_of) l_Circle_house_of c_Circle_house_of k_Circle_house_of).binds (ps := ["self", "name"]) fun _ _ _ _ _ _ us hl => match us, hl with | [_, _], _ => rfl
  a_Circle_house_of := a_Circle_house_of
  i_Circle_house_of := i_Circle_house_of
  mt_Circle_house_of := ⟨a_Circle_house_of, i_Circle_house_of, k_Circle_house_of⟩
  f_Circle_reason := f_Circle_reason
  fd_Circle_reason := _
  F_Circle_reason := fun_mk (st := s_Circle_reason) l_Circle_reason c_Circle_reason k_Circle_reason
  b_Circle_reason := (fun_mk (st := s_Circle_reason) l_Circle_reason c_Circle_reason k_Circle_reason).binds (ps := ["self", "giver", "taker"]) fun _ _ _ _ _ _ us hl => match us, hl with | [_, _, _], _ => rfl
  a_Circle_reason := a_Circle_reason
  i_Circle_reason := i_Circle_reason
  mt_Circle_reason := ⟨a_Circle_reason, i_Circle_reason, k_Circle_reason⟩
  f_Circle_takers := f_Circle_takers
  fd_Circle_takers := _
  F_Circle_takers := fun_mk (st := s_Circle_takers) l_Circle_takers c_Circle_takers k_Circle_takers
  b_Circle_takers := (fun_mk (st := s_Circle_takers) l_Circle_takers c_Circle_takers k_Circle_takers).binds (ps := ["self", "giver"]) fun _ _ _ _ _ _ us hl => match us, hl with | [_, _], _ => rfl
  a_Circle_takers := a_Circle_takers
  i_Circle_takers := i_Circle_takers
  mt_Circle_takers := ⟨a_Circle_takers, i_Circle_takers, k_Circle_takers⟩
  f_Circle_givers := f_Circle_givers
  fd_Circle_givers := _
  F_Circle_givers := fun_mk (st := s_Circle_givers) l_Circle_givers c_Circle_givers k_Circle_givers
  b_Circle_givers := (fun_mk (st := s_Circle_givers) l_Circle_givers c_Circle_givers k_Circle_givers).binds (ps := ["self", "taker"]) fun _ _ _ _ _ _ us hl => match us, hl with | [_, _], _ => rfl
  a_Circle_givers := a_Circle_givers
  i_Circle_givers := i_Circle_givers
  mt_Circle_givers := ⟨a_Circle_givers, i_Circle_givers, k_Circle_givers⟩
  f_without := f_without
  fd_without := _
  F_without := fun_mk (st := s_without) l_without c_without k_without
  b_without := (fun_mk (st := s_without) l_without c_without k_without).binds (ps := ["circle", "name"]) fun _ _ _ _ _ _ us hl => match us, hl with | [_, _], _ => rfl
  mg_without := PySem.W.mg_of X G a_without
  f_with_one := f_with_one
  fd_with_one := _
  F_with_one := fun_mk (st := s_with_one) l_with_one c_with_one k_with_one
  b_with_one := (fun_mk (st := s_with_one) l_with_one c_with_one k_with_one).binds (ps := ["circle", "member"]) fun _ _ _ _ _ _ us hl => match us, hl with | [_, _], _ => rfl
  mg_with_one := PySem.W.mg_of X G a_with_one
  f_are_drawn := f_are_drawn
  fd_are_drawn := _
  F_are_drawn := fun_mk (st := s_are_drawn) l_are_drawn c_are_drawn k_are_drawn
  b_are_drawn := (fun_mk (st := s_are_drawn) l_are_drawn c_are_drawn k_are_drawn).binds (ps := ["thing"]) fun _ _ _ _ _ _ us hl => match us, hl with | [_], _ => rfl
  mg_are_drawn := PySem.W.mg_of X G a_are_drawn
  f_Drawing___init__ := f_Drawing___init__
  fd_Drawing___init__ := _
  F_Drawing___init__ := fun_mk (st := s_Drawing___init__) l_Drawing___init__ c_Drawing___init__ k_Drawing___init__
  b_Drawing___init__ := (fun_mk (st := s_Drawing___init__) l_Drawing___init__ c_Drawing___init__ k_Drawing___init__).binds (ps := ["self", "pairs"]) fun _ _ _ _ _ _ us hl => match us, hl with | [_, _], _ => rfl
  a_Drawing___init__ := a_Drawing___init__
  i_Drawing___init__ := i_Drawing___init__
  f_Drawing_taker_of := f_Drawing_taker_of
  fd_Drawing_taker_of := _
  F_Drawing_taker_of := fun_mk (st := s_Drawing_taker_of) l_Drawing_taker_of c_Drawing_taker_of k_Drawing_taker_of
  b_Drawing_taker_of := (fun_mk (st := s_Drawing_taker_of) l_Drawing_taker_of c_Drawing_taker_of k_Drawing_taker_of).binds (ps := ["self", "name"]) fun _ _ _ _ _ _ us hl => match us, hl with | [_, _], _ => rfl
  a_Drawing_taker_of := a_Drawing_taker_of
  i_Drawing_taker_of := i_Drawing_taker_of
  mt_Drawing_taker_of := ⟨a_Drawing_taker_of, i_Drawing_taker_of, k_Drawing_taker_of⟩
  f_Drawing_giver_of := f_Drawing_giver_of
  fd_Drawing_giver_of := _
  F_Drawing_giver_of := fun_mk (st := s_Drawing_giver_of) l_Drawing_giver_of c_Drawing_giver_of k_Drawing_giver_of
  b_Drawing_giver_of := (fun_mk (st := s_Drawing_giver_of) l_Drawing_giver_of c_Drawing_giver_of k_Drawing_giver_of).binds (ps := ["self", "name"]) fun _ _ _ _ _ _ us hl => match us, hl with | [_, _], _ => rfl
  a_Drawing_giver_of := a_Drawing_giver_of
  i_Drawing_giver_of := i_Drawing_giver_of
  mt_Drawing_giver_of := ⟨a_Drawing_giver_of, i_Drawing_giver_of, k_Drawing_giver_of⟩
  f_keeps := f_keeps
  fd_keeps := _
  F_keeps := fun_mk (st := s_keeps) l_keeps c_keeps k_keeps
  b_keeps := (fun_mk (st := s_keeps) l_keeps c_keeps k_keeps).binds (ps := ["circle", "drawing"]) fun _ _ _ _ _ _ us hl => match us, hl with | [_, _], _ => rfl
  mg_keeps := PySem.W.mg_of X G a_keeps
  f_broken := f_broken
  fd_broken := _
  F_broken := fun_mk (st := s_broken) l_broken c_broken k_broken
  b_broken := (fun_mk (st := s_broken) l_broken c_broken k_broken).binds (ps := ["circle", "drawing"]) fun _ _ _ _ _ _ us hl => match us, hl with | [_, _], _ => rfl
  mg_broken := PySem.W.mg_of X G a_broken
  f__law_blend := f__law_blend
  fd__law_blend := _
  F__law_blend := fun_mk (st := s__law_blend) l__law_blend c__law_blend k__law_blend
  b__law_blend := (fun_mk (st := s__law_blend) l__law_blend c__law_blend k__law_blend).binds (ps := ["_law_number", "_law_turn"]) fun _ _ _ _ _ _ us hl => match us, hl with | [_, _], _ => rfl
  mg__law_blend := PySem.W.mg_of X G a__law_blend
  f__law_pot := f__law_pot
  fd__law_pot := _
  F__law_pot := fun_mk (st := s__law_pot) l__law_pot c__law_pot k__law_pot
  b__law_pot := (fun_mk (st := s__law_pot) l__law_pot c__law_pot k__law_pot).binds (ps := ["_law_script"]) fun _ _ _ _ _ _ us hl => match us, hl with | [_], _ => rfl
  mg__law_pot := PySem.W.mg_of X G a__law_pot
  f__law_draw := f__law_draw
  fd__law_draw := _
  F__law_draw := fun_mk (st := s__law_draw) l__law_draw c__law_draw k__law_draw
  b__law_draw := (fun_mk (st := s__law_draw) l__law_draw c__law_draw k__law_draw).binds (ps := ["_law_pot_here", "_law_size"]) fun _ _ _ _ _ _ us hl => match us, hl with | [_, _], _ => rfl
  mg__law_draw := PySem.W.mg_of X G a__law_draw
  f__law_four := f__law_four
  fd__law_four := _
  F__law_four := fun_mk (st := s__law_four) l__law_four c__law_four k__law_four
  b__law_four := (fun_mk (st := s__law_four) l__law_four c__law_four k__law_four).binds (ps := ["_law_pot_here"]) fun _ _ _ _ _ _ us hl => match us, hl with | [_], _ => rfl
  mg__law_four := PySem.W.mg_of X G a__law_four
  f__law_circle_right := f__law_circle_right
  fd__law_circle_right := _
  F__law_circle_right := fun_mk (st := s__law_circle_right) l__law_circle_right c__law_circle_right k__law_circle_right
  b__law_circle_right := (fun_mk (st := s__law_circle_right) l__law_circle_right c__law_circle_right k__law_circle_right).binds (ps := ["_law_a", "_law_b", "_law_c"]) fun _ _ _ _ _ _ us hl => match us, hl with | [_, _, _], _ => rfl
  mg__law_circle_right := PySem.W.mg_of X G a__law_circle_right
  f__law_drawing_right := f__law_drawing_right
  fd__law_drawing_right := _
  F__law_drawing_right := fun_mk (st := s__law_drawing_right) l__law_drawing_right c__law_drawing_right k__law_drawing_right
  b__law_drawing_right := (fun_mk (st := s__law_drawing_right) l__law_drawing_right c__law_drawing_right k__law_drawing_right).binds (ps := ["_law_a", "_law_b", "_law_c", "_law_d"]) fun _ _ _ _ _ _ us hl => match us, hl with | [_, _, _, _], _ => rfl
  mg__law_drawing_right := PySem.W.mg_of X G a__law_drawing_right
  f_law := f_law
  fd_law := _
  F_law := fun_mk (st := s_law) l_law c_law k_law
  b_law := (fun_mk (st := s_law) l_law c_law k_law).binds (ps := ["_law_script"]) fun _ _ _ _ _ _ us hl => match us, hl with | [_], _ => rfl
  mg_law := PySem.W.mg_of X G a_law
  mg_Circle := PySem.W.mg_of X G aC_Circle
  cl_Circle := ⟨pg_Circle, hd_Circle, po_Circle, sa_Circle⟩
  mk_Circle := ⟨mkk_Circle, a_Circle___init__, i_Circle___init__, kc_Circle⟩
  ok_Circle := ⟨⟨pg_Circle, hd_Circle, po_Circle, sa_Circle⟩, ha_Circle, hn_Circle, ht_Circle, hm_Circle⟩
  na_Circle_members := na_Circle_members
  na_Circle_bars := na_Circle_bars
  na_Circle_past := na_Circle_past
  na_Circle_gap := na_Circle_gap
  na_Circle_houses := na_Circle_houses
  na_Circle_names_told := na_Circle_names_told
  na_Circle_barred := na_Circle_barred
  na_Circle_gone_by := na_Circle_gone_by
  mg_Drawing := PySem.W.mg_of X G aC_Drawing
  cl_Drawing := ⟨pg_Drawing, hd_Drawing, po_Drawing, sa_Drawing⟩
  mk_Drawing := ⟨mkk_Drawing, a_Drawing___init__, i_Drawing___init__, kc_Drawing⟩
  ok_Drawing := ⟨⟨pg_Drawing, hd_Drawing, po_Drawing, sa_Drawing⟩, ha_Drawing, hn_Drawing, ht_Drawing, hm_Drawing⟩
  na_Drawing_pairs := na_Drawing_pairs
  tk_LETTERS := tk_LETTERS
  mg_LETTERS := PySem.W.mg_of X G g_LETTERS
  tk_MOST_LETTERS := tk_MOST_LETTERS
  mg_MOST_LETTERS := PySem.W.mg_of X G g_MOST_LETTERS
  tk_MOST_FIGURES := tk_MOST_FIGURES
  mg_MOST_FIGURES := PySem.W.mg_of X G g_MOST_FIGURES
  n_len := PySem.W.mg_none_of X G n_len
  n_abs := PySem.W.mg_none_of X G n_abs
  n_all := PySem.W.mg_none_of X G n_all
  n_range := PySem.W.mg_none_of X G n_range
  n_isinstance := PySem.W.mg_none_of X G n_isinstance
  n_list := PySem.W.mg_none_of X G n_list
  n_tuple := PySem.W.mg_none_of X G n_tuple
  n_str := PySem.W.mg_none_of X G n_str
  n_sorted := PySem.W.mg_none_of X G n_sorted
  n_zip := PySem.W.mg_none_of X G n_zip
  n_set := PySem.W.mg_none_of X G n_set
  n_max := PySem.W.mg_none_of X G n_max
  n_dict := PySem.W.mg_none_of X G n_dict
  n_int := PySem.W.mg_none_of X G n_int
  n_bool := PySem.W.mg_none_of X G n_bool }
abbrev psC : List Str := ["self", "members", "bars", "past", "gap"]
/-- Circle(members, bars, past), Circle(members, bars, past, gap) -/
theorem T10.b3 {K : PySem.W.Frag} {mg : Str → Option Value} (T : T10 K mg) : ∃ ds0, Dfl K [.int 1] ds0 [.int 1] ∧ Binds K T.fd_Circle___init__ psC ds0 := by
  obtain ⟨ds, h1, h2⟩ := T.F_Circle___init__.binds1 (ps := psC) 4 2 (by simp) rfl (fun T' kV doc pm an cdv ct us its hu hi => by
    match us, hu, its, hi with
    | [_, _, _, _], _, [_, _, _], _ => exact ⟨_, rfl, rfl⟩)
  exact ⟨ds, ⟨h1, fun m H => .cons (.int 1) .nil⟩, h2⟩
theorem T10.b4 {K : PySem.W.Frag} {mg : Str → Option Value} (T : T10 K mg) : Binds K T.fd_Circle___init__ psC [] := by
  obtain ⟨ds, h1, h2⟩ := T.F_Circle___init__.binds1 (ps := psC) 5 3 (by simp) rfl (fun T' kV doc pm an cdv ct us its hu hi => by
    match us, hu, its, hi with
    | [_, _, _, _, _], _, [_, _, _], _ => exact ⟨_, rfl, rfl⟩)
  cases h1
  exact h2
/-- by names: members; members and bars; all, in another order -/
theorem T10.k1 {K : PySem.W.Frag} {mg : Str → Option Value} (T : T10 K mg) : ∃ ds0, Dfl K [.non, .non, .int 1] ds0 [.non, .non, .int 1] ∧ KwB K T.fd_Circle___init__ psC 1 ["members"] [0, 1, 2, 3, 4] ds0 := by
  obtain ⟨ds, h1, h2⟩ := kwbP T.F_Circle___init__ (ps := psC) 1 0 ["members"] [0, 1, 2, 3, 4] (by simp) rfl (by decide) (fun T' kV doc pm an cdv ct us its ws hu hi hw => by
    match us, hu, its, hi, ws, hw with
    | [_], _, [_, _, _], _, [_], _ => exact ⟨_, rfl, rfl⟩)
  exact ⟨ds, ⟨h1, fun m H => .cons .non (.cons .non (.cons (.int 1) .nil))⟩, h2⟩
theorem T10.k2 {K : PySem.W.Frag} {mg : Str → Option Value} (T : T10 K mg) : ∃ ds0, Dfl K [.non, .int 1] ds0 [.non, .int 1] ∧ KwB K T.fd_Circle___init__ psC 1 ["members", "bars"] [0, 1, 2, 3, 4] ds0 := by
  obtain ⟨ds, h1, h2⟩ := kwbP T.F_Circle___init__ (ps := psC) 1 1 ["members", "bars"] [0, 1, 2, 3, 4] (by simp) rfl (by decide) (fun T' kV doc pm an cdv ct us its ws hu hi hw => by
    match us, hu, its, hi, ws, hw with
    | [_], _, [_, _, _], _, [_, _], _ => exact ⟨_, rfl, rfl⟩)
  exact ⟨ds, ⟨h1, fun m H => .cons .non (.cons (.int 1) .nil)⟩, h2⟩
theorem T10.k4 {K : PySem.W.Frag} {mg : Str → Option Value} (T : T10 K mg) : KwB K T.fd_Circle___init__ psC 1 ["gap", "past", "bars", "members"] [0, 4, 3, 2, 1] [] := by
  obtain ⟨ds, h1, h2⟩ := kwbP T.F_Circle___init__ (ps := psC) 1 3 ["gap", "past", "bars", "members"] [0, 4, 3, 2, 1] (by simp) rfl (by decide) (fun T' kV doc pm an cdv ct us its ws hu hi hw => by
    match us, hu, its, hi, ws, hw with
    | [_], _, [_, _, _], _, [_, _, _, _], _ => exact ⟨_, rfl, rfl⟩)
  cases h1
  exact h2
/-- what the class is handed in, by names -/
def gm1 (gn : F) : F := fun es S => match es with
  | [a] => gn [a, .non, .non, .int 1] S
  | _ => .bad
def gm2 (gn : F) : F := fun es S => match es with
  | [a, b] => gn [a, b, .non, .int 1] S
  | _ => .bad
def gm4 (gn : F) : F := fun es S => match es with
  | [a, b, c, d] => gn [d, c, b, a] S
  | _ => .bad
def gmD (gn : F) : F := fun es S => match es with
  | [a] => gn [a] S
  | _ => .bad
abbrev mkR (C : Addr) (g : F) (ds : List D) (S : Sto) : R D := (g ds (S ++ [.ins C []])).bind fun d S1 => match d with
  | .non => .ok (.ref S.length) S1
  | _ => .bad
theorem mk1_le {C : Addr} {g gn : F} (le : ∀ ds S, RLe S (gn ds S) (mkF C g ds S)) : ∀ (es : List D) (S : Sto), es.length = (["members"] : List Str).length → RLe S (gm1 gn es S) (mkR C g (pick [0, 1, 2, 3, 4] (.ref S.length :: es ++ [.non, .non, .int 1])) S)
  | [a], S, _ => le [a, .non, .non, .int 1] S
theorem mk2_le {C : Addr} {g gn : F} (le : ∀ ds S, RLe S (gn ds S) (mkF C g ds S)) : ∀ (es : List D) (S : Sto), es.length = (["members", "bars"] : List Str).length → RLe S (gm2 gn es S) (mkR C g (pick [0, 1, 2, 3, 4] (.ref S.length :: es ++ [.non, .int 1])) S)
  | [a, b], S, _ => le [a, b, .non, .int 1] S
theorem mk4_le {C : Addr} {g gn : F} (le : ∀ ds S, RLe S (gn ds S) (mkF C g ds S)) : ∀ (es : List D) (S : Sto), es.length = (["gap", "past", "bars", "members"] : List Str).length → RLe S (gm4 gn es S) (mkR C g (pick [0, 4, 3, 2, 1] (.ref S.length :: es ++ [])) S)
  | [a, b, c, d], S, _ => le [d, c, b, a] S
theorem mkD_le {C : Addr} {g gn : F} (le : ∀ ds S, RLe S (gn ds S) (mkF C g ds S)) : ∀ (es : List D) (S : Sto), es.length = (["pairs"] : List Str).length → RLe S (gmD gn es S) (mkR C g (pick [0, 1] (.ref S.length :: es ++ [])) S)
  | [a], S, _ => le [a] S
theorem T10.kw_is_name {K : PySem.W.Frag} {mg : Str → Option Value} (T : T10 K mg) : KwB K T.fd_is_name ["thing"] 0 ["thing"] [0] [] :=
  kwb T.F_is_name rfl (by decide) fun _ _ _ _ _ _ us ws h1 h2 => match us, h1, ws, h2 with | [], _, [_], _ => rfl
theorem T10.kw_is_circle {K : PySem.W.Frag} {mg : Str → Option Value} (T : T10 K mg) : KwB K T.fd_is_circle ["members", "bars", "past", "gap"] 0 ["gap", "past", "bars", "members"] [3, 2, 1, 0] [] :=
  kwb T.F_is_circle rfl (by decide) fun _ _ _ _ _ _ us ws h1 h2 => match us, h1, ws, h2 with | [], _, [_, _, _, _], _ => rfl
theorem T10.kw_keeps {K : PySem.W.Frag} {mg : Str → Option Value} (T : T10 K mg) : KwB K T.fd_keeps ["circle", "drawing"] 0 ["drawing", "circle"] [1, 0] [] :=
  kwb T.F_keeps rfl (by decide) fun _ _ _ _ _ _ us ws h1 h2 => match us, h1, ws, h2 with | [], _, [_, _], _ => rfl
theorem T10.kw_broken {K : PySem.W.Frag} {mg : Str → Option Value} (T : T10 K mg) : KwB K T.fd_broken ["circle", "drawing"] 0 ["drawing", "circle"] [1, 0] [] :=
  kwb T.F_broken rfl (by decide) fun _ _ _ _ _ _ us ws h1 h2 => match us, h1, ws, h2 with | [], _, [_, _], _ => rfl
theorem T10.kw_without {K : PySem.W.Frag} {mg : Str → Option Value} (T : T10 K mg) : KwB K T.fd_without ["circle", "name"] 0 ["name", "circle"] [1, 0] [] :=
  kwb T.F_without rfl (by decide) fun _ _ _ _ _ _ us ws h1 h2 => match us, h1, ws, h2 with | [], _, [_, _], _ => rfl
theorem T10.kw_with_one {K : PySem.W.Frag} {mg : Str → Option Value} (T : T10 K mg) : KwB K T.fd_with_one ["circle", "member"] 0 ["member", "circle"] [1, 0] [] :=
  kwb T.F_with_one rfl (by decide) fun _ _ _ _ _ _ us ws h1 h2 => match us, h1, ws, h2 with | [], _, [_, _], _ => rfl
theorem T10.kw_Circle_house_of_name {K : PySem.W.Frag} {mg : Str → Option Value} (T : T10 K mg) : KwB K T.fd_Circle_house_of ["self", "name"] 1 ["name"] [0, 1] [] :=
  kwb T.F_Circle_house_of rfl (by decide) fun _ _ _ _ _ _ us ws h1 h2 => match us, h1, ws, h2 with | [_], _, [_], _ => rfl
theorem T10.kw_Circle_reason_taker_giver {K : PySem.W.Frag} {mg : Str → Option Value} (T : T10 K mg) : KwB K T.fd_Circle_reason ["self", "giver", "taker"] 1 ["taker", "giver"] [0, 2, 1] [] :=
  kwb T.F_Circle_reason rfl (by decide) fun _ _ _ _ _ _ us ws h1 h2 => match us, h1, ws, h2 with | [_], _, [_, _], _ => rfl
theorem T10.kw_Circle_reason_giver_taker {K : PySem.W.Frag} {mg : Str → Option Value} (T : T10 K mg) : KwB K T.fd_Circle_reason ["self", "giver", "taker"] 1 ["giver", "taker"] [0, 1, 2] [] :=
  kwb T.F_Circle_reason rfl (by decide) fun _ _ _ _ _ _ us ws h1 h2 => match us, h1, ws, h2 with | [_], _, [_, _], _ => rfl
theorem T10.kw_Circle_takers_giver {K : PySem.W.Frag} {mg : Str → Option Value} (T : T10 K mg) : KwB K T.fd_Circle_takers ["self", "giver"] 1 ["giver"] [0, 1] [] :=
  kwb T.F_Circle_takers rfl (by decide) fun _ _ _ _ _ _ us ws h1 h2 => match us, h1, ws, h2 with | [_], _, [_], _ => rfl
theorem T10.kw_Circle_givers_taker {K : PySem.W.Frag} {mg : Str → Option Value} (T : T10 K mg) : KwB K T.fd_Circle_givers ["self", "taker"] 1 ["taker"] [0, 1] [] :=
  kwb T.F_Circle_givers rfl (by decide) fun _ _ _ _ _ _ us ws h1 h2 => match us, h1, ws, h2 with | [_], _, [_], _ => rfl
theorem T10.kw_Drawing_taker_of_name {K : PySem.W.Frag} {mg : Str → Option Value} (T : T10 K mg) : KwB K T.fd_Drawing_taker_of ["self", "name"] 1 ["name"] [0, 1] [] :=
  kwb T.F_Drawing_taker_of rfl (by decide) fun _ _ _ _ _ _ us ws h1 h2 => match us, h1, ws, h2 with | [_], _, [_], _ => rfl
theorem T10.kw_Drawing_giver_of_name {K : PySem.W.Frag} {mg : Str → Option Value} (T : T10 K mg) : KwB K T.fd_Drawing_giver_of ["self", "name"] 1 ["name"] [0, 1] [] :=
  kwb T.F_Drawing_giver_of rfl (by decide) fun _ _ _ _ _ _ us ws h1 h2 => match us, h1, ws, h2 with | [_], _, [_], _ => rfl
theorem T10.kw_Drawing {K : PySem.W.Frag} {mg : Str → Option Value} (T : T10 K mg) : KwB K T.fd_Drawing___init__ ["self", "pairs"] 1 ["pairs"] [0, 1] [] :=
  kwb T.F_Drawing___init__ rfl (by decide) fun _ _ _ _ _ _ us ws h1 h2 => match us, h1, ws, h2 with | [_], _, [_], _ => rfl
def tabCi (C : Addr) : Tab := fun t => match t with
  | .obj D => if D = C then some true else none
  | _ => none
theorem T10.isi_Circle {K : PySem.W.Frag} {mg : Str → Option Value} (T : T10 K mg) : IsiOk K (.ref T.C_Circle) (tabCi T.C_Circle) := ⟨fun t b h => by
  unfold tabCi at h
  cases t with
  | obj D =>
    dsimp only at h
    split at h
    · rename_i hc
      cases h
      subst hc
      exact ⟨if_pos (beq_self_eq_true _), fun C z => by cases z; exact T.ok_Circle⟩
    · cases h
  | _ => cases h⟩
def tsCi (C : Addr) : List Tg := [.obj C]
theorem T10.fst_Circle {K : PySem.W.Frag} {mg : Str → Option Value} (T : T10 K mg) : ∀ t ∈ tsCi T.C_Circle, PySem.W.notFirst K T.C_Circle (tyG t) = true ∧ ∀ C', t = .obj C' → OwnOk K C' := fun t ht => by
  simp only [tsCi, List.mem_cons, List.not_mem_nil, or_false] at ht
  subst ht
  exact ⟨by unfold PySem.W.notFirst; simp [tyG], fun _ z => by cases z; exact T.ok_Circle⟩
end K10

/-! the plain law: rows of pairs, read in two ways -/
namespace K59
open PySem PySem.Spec PyProof.Rows L2 MP TL
abbrev lets : Str := "abcdefghijklmnopqrstuvwxyz"
def isL (c : Nat) : Bool := decide (c ∈ lets.cps.toList)
def nm (x : Str) : Bool := decide (1 ≤ x.length ∧ x.length ≤ 12) && (tl x).all isL
abbrev Pr := Str × Str
def slt (a b : Str) : Bool := decide (tl a < tl b)
def givs (ps : List Pr) : List Str := ps.map (·.1)
def taks (ps : List Pr) : List Str := ps.map (·.2)
def still (ps : List Pr) : List Str := (ps.filter fun p => !decide (p.2 ∈ givs ps)).map (·.2)
/-- a giver who is not behind the last one -/
def late (ps : List Pr) (a : Str) : Bool := match ps.getLast? with
  | some p => !slt p.1 a
  | none => false
def mayP (ps : List Pr) (ws : List Str) : Bool := match ws with
  | [a, m, b] => decide (m = ">") && nm a && nm b && !(late ps a || decide (b ∈ taks ps)) && (still (ps ++ [(a, b)])).all fun t => slt a t
  | _ => false
def pairOf (ws : List Str) : Pr := (ws.getD 0 Str.empty, ws.getD 2 Str.empty)
def goP : Nat → List Pr → List Str → Nat ⊕ List Pr
  | _, ps, [] => .inr ps
  | n, ps, r :: rs => if mayP ps (Txt.split r " ") = true then goP (n + 1) (ps ++ [pairOf (Txt.split r " ")]) rs else .inl n
def rowsOf (t : Str) : List Str := if t = Str.empty then [] else Txt.split t "\n"
def readP (t : Str) : Nat ⊕ List Pr := match goP 0 [] (rowsOf t) with
  | .inl n => .inl n
  | .inr ps => if still ps = [] then .inr ps else .inl (rowsOf t).length
def mayL (ps : List Pr) (ws : List Str) : Bool := match ws with
  | [a, b] => nm a && nm b && !(late ps a || decide (b ∈ taks ps))
  | _ => false
def pairOfL (ws : List Str) : Pr := (ws.getD 0 Str.empty, ws.getD 1 Str.empty)
def badL (ps : List Pr) (a : Str) : Bool := ps.any fun p => slt p.2 a && !decide (p.2 ∈ givs ps)
def goL : Nat → List Pr → List Str → Nat ⊕ List Pr
  | _, ps, [] => .inr ps
  | n, ps, r :: rs => if mayL ps (Txt.split r " > ") = true then (if badL (ps ++ [pairOfL (Txt.split r " > ")]) (pairOfL (Txt.split r " > ")).1 = true then .inl n else goL (n + 1) (ps ++ [pairOfL (Txt.split r " > ")]) rs) else .inl n
def readL (t : Str) : Nat ⊕ List Pr := match goL 0 [] (rowsOf t) with
  | .inl n => .inl n
  | .inr ps => if (ps.any fun p => !decide (p.2 ∈ givs ps)) = true then .inl (rowsOf t).length else .inr ps
/-! ### texts -/
theorem slt_irrefl (a : Str) : slt a a = false := decide_eq_false (List.lt_irrefl _)
theorem slt_tri {a b : Str} (h : a ≠ b) : slt a b = !slt b a := by
  unfold slt
  by_cases h1 : tl a < tl b
  · rw [decide_eq_true h1, decide_eq_false (List.lt_asymm h1)]; rfl
  · by_cases h2 : tl b < tl a
    · rw [decide_eq_true h2, decide_eq_false h1]; rfl
    · exact absurd (ext_tl (List.le_antisymm (List.not_lt.mp h2) (List.not_lt.mp h1))) h
theorem slt_trans {a b c : Str} (h1 : slt a b = true) (h2 : slt b c = true) : slt a c = true :=
  decide_eq_true (List.lt_trans (of_decide_eq_true h1) (of_decide_eq_true h2))
theorem slt_ne {a b : Str} (h : slt a b = true) : a ≠ b := fun e => by rw [e, slt_irrefl] at h; cases h
/-! ### one row -/
/-! ### what is read is drawn -/
structure Ok (ps : List Pr) : Prop where
  nm : ∀ p ∈ ps, K59.nm p.1 = true ∧ K59.nm p.2 = true
  ri : (givs ps).Pairwise fun a b => slt a b = true
  nd : (taks ps).Nodup
theorem cnt_nodup {l : List Str} (h : l.Nodup) : ∀ i, i ≤ l.length → cntS l i = i
  | 0, _ => rfl
  | i + 1, hi => by
    have ih := cnt_nodup h i (by omega)
    have hlt : i < l.length := by omega
    unfold cntS
    rw [if_neg, ih]
    have e : l.getD i Str.empty = l[i] := by simp [hlt]
    rw [e, List.any_eq_true]
    rintro ⟨x, hx, hq⟩
    have ex : x = l[i] := by simpa using hq
    subst ex
    obtain ⟨j, hj, ej⟩ := List.mem_iff_getElem.mp hx
    rw [List.getElem_take] at ej
    have hji : j < i := by simp at hj; omega
    have := (List.getElem_inj h).mp ej
    omega
/-! ### the law's look at names -/
/-! ### sorted -/
def sle (a b : Str) : Bool := decide (tl a ≤ tl b)
theorem leD_str (a b : Str) : leD (.str a) (.str b) = sle a b := by
  have := congrFun (congrFun (PySem.W.dataLe_str (fun x : Str => x)) a) b
  exact this
theorem srt_strs (ys : List Str) (h : ys.length ≤ 100000) : srtOk (ys.map D.str) = true := by
  unfold srtOk
  simp only [Bool.and_eq_true, List.all_eq_true, decide_eq_true_eq, Bool.or_eq_true]
  refine ⟨⟨⟨⟨fun x hx => ?_, fun x hx y hy => ?_⟩, .inr fun x hx => ?_⟩, fun x hx => ?_⟩, by rw [List.length_map]; exact Nat.le_trans h (by decide)⟩
  all_goals obtain ⟨a, _, rfl⟩ := List.mem_map.mp hx
  · rfl
  · obtain ⟨b, _, rfl⟩ := List.mem_map.mp hy
    rfl
  · rfl
  · simp [MP.encD, toPD, PyData.depth]
theorem sorted_strs (S : Sto) (d : D) (ys : List Str) (h : vw S d = .lst (ys.map D.str)) (hl : ys.length ≤ 100000) : gSorted S [d] = some (.lst ((ys.mergeSort sle).map D.str)) := by
  unfold gSorted
  dsimp only
  rw [h]
  dsimp only
  rw [if_pos (srt_strs ys hl)]
  have e := List.map_mergeSort (r := sle) (s := leD) (f := D.str) (l := ys) (fun a _ b _ => (leD_str a b).symm)
  rw [e]
/-! ### a list of texts is itself -/
theorem toPDs_str : ∀ ys : List Str, toPDs (ys.map D.str) = some (ys.map PyData.str)
  | [] => rfl
  | x :: r => by simp [toPDs, toPD, toPDs_str r]
theorem canLay_str : ∀ {ys : List Str}, (∀ y ∈ ys, PyData.strOk y = true) → PyData.canLayAll0 (ys.map PyData.str) = true
  | [], _ => rfl
  | x :: r, h => by
    have e := canLay_str (ys := r) fun y hy => h y (List.mem_cons_of_mem _ hy)
    simp [PyData.canLayAll0, PyData.canLay0, h x (by simp), e]
theorem nm_ok {x : Str} (h : nm x = true) : PyData.strOk x = true := by
  unfold nm at h
  rw [Bool.and_eq_true, List.all_eq_true] at h
  unfold PyData.strOk
  rw [← Array.all_toList, List.all_eq_true]
  intro c hc
  have hb : (lets.cps.toList.all fun c => decide (c < 1000)) = true := by decide
  have := List.all_eq_true.mp hb c (of_decide_eq_true (h.2 c hc))
  have := of_decide_eq_true this
  exact decide_eq_true (by omega)
theorem depth_str : ∀ own : List Str, PyData.depthAll (own.map PyData.str) ≤ 1
  | [] => by simp [PyData.depthAll]
  | x :: r => by
    have := depth_str r
    simp only [List.map_cons, PyData.depthAll, PyData.depth]
    omega
theorem shaped_str {own : List Str} (hy : ∀ y ∈ own, PyData.strOk y = true) : SeqAt.shaped (.list (own.map PyData.str)) = true := by
  unfold SeqAt.shaped
  have h := depth_str own
  rw [Bool.and_eq_true]
  exact ⟨by simp only [PyData.canLay0]; exact canLay_str hy, decide_eq_true (by simp only [PyData.depth]; omega)⟩
end K59

/-! the plain law of k06: drawn, in two ways -/
namespace K06
open PySem PySem.Spec PyProof.Rows L2 MP TL K59
def riP (q : Pr × Pr) : Bool := ltP q.1.1 q.1.2 q.2.1 q.2.2
/-- as the program asks -/
def drawnA (ps : List Pr) : Bool := (ps.zip (ps.drop 1)).all riP && decide (cntS (givs ps) ps.length = ps.length) && decide ((taks ps).mergeSort sle = givs ps)
/-- as the law asks -/
def drawnB (ps : List Pr) : Bool := decide (givs ps = srtS (givs ps)) && decide ((taks ps).mergeSort sle = givs ps)
end K06

/-! a shown text has signs below 0x110000 -/
namespace K06
open PySem PySem.Spec PyProof.Rows L2 MP TL
def Cd (x : Str) : Prop := ∀ c ∈ tl x, c < 0x110000
theorem char_lt (c : Char) : c.toNat < 0x110000 := by
  have := c.valid
  unfold UInt32.isValidChar Nat.isValidChar at this
  show c.val.toNat < _
  omega
theorem cd_of (s : String) : Cd (Str.ofString s) := fun c hc => by
  rw [tl_ofString] at hc
  obtain ⟨d, _, rfl⟩ := List.mem_map.mp hc
  exact char_lt d
theorem cd_hex (w c : Nat) : ∀ d ∈ List.replicate (w - ((Nat.toDigits 16 c).map Char.toNat).length) 48 ++ (Nat.toDigits 16 c).map Char.toNat, d < 0x110000 := fun d hd => by
  rcases List.mem_append.mp hd with h | h
  · rw [(List.mem_replicate.mp h).2]; decide
  · obtain ⟨e, _, rfl⟩ := List.mem_map.mp h
    exact char_lt e
theorem cd_char (q c : Nat) (h : c < 0x110000) : ∀ d ∈ PySem.Builtin.Str.reprChar q c, d < 0x110000 := by
  unfold PySem.Builtin.Str.reprChar
  intro d hd
  dsimp only at hd
  have hx := fun w => cd_hex w c
  split at hd
  · simp only [List.mem_cons, List.not_mem_nil, or_false] at hd
    rcases hd with rfl | rfl
    · decide
    · exact h
  · split at hd
    · simp only [List.mem_cons, List.not_mem_nil, or_false] at hd
      rcases hd with rfl | rfl <;> decide
    · split at hd
      · simp only [List.mem_cons, List.not_mem_nil, or_false] at hd
        rcases hd with rfl | rfl <;> decide
      · split at hd
        · simp only [List.mem_cons, List.not_mem_nil, or_false] at hd
          rcases hd with rfl | rfl <;> decide
        · split at hd
          · rw [List.mem_singleton.mp hd]; exact h
          · split at hd
            · rcases List.mem_append.mp hd with hd | hd
              · simp only [List.mem_cons, List.not_mem_nil, or_false] at hd
                rcases hd with rfl | rfl <;> decide
              · exact hx 2 d hd
            · split at hd
              · rcases List.mem_append.mp hd with hd | hd
                · simp only [List.mem_cons, List.not_mem_nil, or_false] at hd
                  rcases hd with rfl | rfl <;> decide
                · exact hx 4 d hd
              · rcases List.mem_append.mp hd with hd | hd
                · simp only [List.mem_cons, List.not_mem_nil, or_false] at hd
                  rcases hd with rfl | rfl <;> decide
                · exact hx 8 d hd
theorem cd_fold (q : Nat) : ∀ (l : List Nat) (acc : Array Nat), (∀ c ∈ l, c < 0x110000) → (∀ c ∈ acc.toList, c < 0x110000) → ∀ c ∈ (l.foldl (fun out c => out ++ (PySem.Builtin.Str.reprChar q c).toArray) acc).toList, c < 0x110000
  | [], acc, _, h => h
  | d :: l, acc, hl, h => by
    refine cd_fold q l _ (fun c hc => hl c (by simp [hc])) fun c hc => ?_
    rw [Array.toList_append] at hc
    rcases List.mem_append.mp hc with hc | hc
    · exact h c hc
    · exact cd_char q d (hl d (by simp)) c hc
theorem cd_repr {x : Str} (h : Cd x) : Cd (reprText x) := by
  intro c hc
  have hq : reprQuote x < 0x110000 := by
    unfold reprQuote
    split <;> decide
  unfold reprText at hc
  have e : tl (⟨(x.cps.foldl (fun out c => out ++ (PySem.Builtin.Str.reprChar (reprQuote x) c).toArray) #[reprQuote x]).push (reprQuote x)⟩ : Str) = (x.cps.foldl (fun out c => out ++ (PySem.Builtin.Str.reprChar (reprQuote x) c).toArray) #[reprQuote x]).toList ++ [reprQuote x] := Array.toList_push ..
  rw [e] at hc
  rcases List.mem_append.mp hc with hc | hc
  · rw [← Array.foldl_toList] at hc
    exact cd_fold _ _ _ h (fun c hc => by rw [List.mem_singleton.mp hc]; exact hq) c hc
  · rw [List.mem_singleton.mp hc]; exact hq
/-- all its texts are good -/
def CdP : PyData → Prop := fun p => Cd p.shown
theorem Cd.ok {x : Str} (h : Cd x) : PyData.strOk x = true := by
  unfold PyData.strOk
  rw [← Array.all_toList, List.all_eq_true]
  intro c hc
  exact decide_eq_true (h c hc)
end K06

namespace K10
open PySem PySem.Spec PyProof.Rows L2 MP TL
open K59 (Pr nm givs taks slt isL lets nm_ok)
open K06 (riP Cd)
/-! ### names, pairs: of any datum -/
def pD (p : Pr) : D := .tup [.str p.1, .str p.2]
def psD (ps : List Pr) : List D := ps.map pD
theorem psD_len (ps : List Pr) : (psD ps).length = ps.length := by simp [psD]
def plainD : D → Bool
  | .ref _ => false
  | .obj _ _ => false
  | .exn _ _ => false
  | .ftup _ => false
  | .str x => decide (x.length ≤ 100000)
  | .dcn _ _ => false
  | .fdct _ => false
  | .fn _ => false
  | _ => true
def nmD : D → Bool
  | .str x => nm x
  | _ => false
def prD : D → Bool
  | .tup [a, b] => nmD a && nmD b
  | _ => false
/-- a datum, and what stands in it -/
def In1 (d : D) : Prop := plainD d = true ∧ ∀ xs, d = .tup xs → ∀ x ∈ xs, plainD x = true
def In2 (d : D) : Prop := plainD d = true ∧ ∀ xs, d = .tup xs → xs.length ≤ 3000 ∧ ∀ x ∈ xs, In1 x
def SName (g : F) : Prop := ∀ (S : Sto) (d : D), plainD d = true → g [d] S = .ok (.bl (nmD d)) S
def SPair (g : F) : Prop := ∀ (S : Sto) (d : D), In1 d → g [d] S = .ok (.bl (prD d)) S
def SRise (g : F) : Prop := ∀ (S : Sto) (ps : List Pr), ps.length ≤ 100000 → g [.tup (psD ps)] S = .ok (.bl ((ps.zip (ps.drop 1)).all riP)) S
theorem sz {n : Nat} (h : n ≤ 100000) : n ≤ sizeLine := Nat.le_trans h (by decide)
theorem len_str {S : Sto} {x : Str} (h : x.length ≤ 100000) : gLen S [.str x] = some (.int (x.length : Int)) := by
  unfold gLen
  dsimp only [vw]
  exact if_pos (sz h)
theorem isi_ok {tab : Tab} {l : LE} {ρ : Ev} {S S1 : Sto} {d e : D} (h : l ρ S = .ok d S1) (h2 : gIsi tab S1 d = some e) : lIsi tab l ρ S = .ok e S1 := by
  unfold lIsi; rw [h, bind_ok, h2]; rfl
theorem cut1 (xs : List D) : MP.cutD xs (some 1) none = xs.drop 1 := by
  unfold MP.cutD
  have e1 : HT.sIx xs.length xs.length none = xs.length := rfl
  have e2 : HT.sIx xs.length 0 (some 1) = min 1 xs.length := by
    simp [HT.sIx]
    try omega
  rw [e1, e2]
  cases xs with
  | nil => rfl
  | cons x xs =>
    have : min 1 (x :: xs).length = 1 := by simp
    rw [this]
    simp
theorem zip_ps (ps qs : List Pr) : zipD (psD ps) (psD qs) = (ps.zip qs).map fun q => D.tup [pD q.1, pD q.2] := by
  unfold zipD psD
  induction ps generalizing qs with
  | nil => rfl
  | cons p ps ih => cases qs with
    | nil => rfl
    | cons q qs => simp [ih]
section
variable {P : Program} {w : World} {K : PySem.W.Frag} {mg : Str → Option Value} {base : Heap}
theorem ok_name (T : T10 K mg) : ∃ g, FnL P w K mg base 1 T.f_is_name T.fd_is_name ["thing"] g ∧ SName g := by
  refine ⟨_, Fun.okL T.F_is_name sc_is_name fun cdv A outer s H E hr =>
(pssl_cons (psl_if (PWL.pt (pwl_or (ptl_not (ptl_truth (pel_isi rfl T.n_isinstance (pel_var (i := 0)) (pe_bltn rfl T.n_str (v := .ty "str") (u := .type "str") (by decide +kernel) rfl) (.ty _) isi_strA))) (pwl_or1 (ptl_not (ptl_chain opl_le2 opl_le2 pel_int (pel_callB (cl_len) rfl T.n_len (by decide +kernel) (pal_cons (pel_var (i := 0)) pal_nil)) (pel_gint rfl T.mg_MOST_LETTERS)))))) (pssl_one (psl_ret pel_bl)) pssl_nil)
  (pssl_one (psl_ret (pel_callB (cl_all rfl) rfl T.n_all (by decide +kernel) (pal_cons (pel_lc (own := [("letter", 1)]) rfl sc_is_name.nd (pil_val (pel_var (i := 0))) (blkOk_by (N := N_is_name) (sc := defScope s_is_name) (by decide +kernel)) (fun _ _ _ _ _ => (pgl_name (i := 1) sc_is_name.nd)) (fun _ _ _ _ _ => ptsl_nil) (fun _ _ _ _ _ => (pel_cmp opl_inSg (pel_var (i := 1)) (pel_gstr rfl T.mg_LETTERS)))) pal_nil))))), ?_⟩
  intro S d hd
  have no : ∀ d : D, lIsi tabStrA (lVar 0) [some d, none] S = .ok (.bl false) S → tTru (lIsi tabStrA (lVar 0)) [some d, none] S = .ok false S := fun d h => tru_b h rfl
  cases d with
  | ref _ => cases hd
  | obj _ _ => cases hd
  | exn _ _ => cases hd
  | ftup _ => cases hd
  | dcn _ _ => cases hd
  | fdct _ => cases hd
  | fn _ => cases hd
  | str x =>
    have hx : x.length ≤ 100000 := of_decide_eq_true hd
    have hl : ∀ ρ : Ev, ρ[0]? = some (some (.str x)) → lCallB gLen (aCons (lVar 0) aNil) ρ S = .ok (.int (x.length : Int)) S := fun ρ h => callb_ok (acons_ok (by unfold lVar; rw [h]) rfl) (len_str hx)
    have hi : tTru (lIsi tabStrA (lVar 0)) [some (.str x), none] S = .ok true S := tru_b (isi_ok rfl rfl) rfl
    show _ = R.ok (D.bl (nm x)) S
    by_cases h1 : 1 ≤ x.length
    · by_cases h2 : x.length ≤ 12
      · have hc : tTru (lChain gLe2 gLe2 (lC (.int 1)) (lCallB gLen (aCons (lVar 0) aNil)) (lC (.int 12))) [some (.str x), none] S = .ok true S :=
          tru_b (chain_tt rfl (hl _ rfl) (show gLe2 S (.int 1) (.int (x.length : Int)) = some (.bl true) by show some (D.bl (decide ((1 : Int) ≤ x.length))) = _; rw [decide_eq_true (by omega)]) rfl (show gLe2 S (.int (x.length : Int)) (.int 12) = some (.bl (decide ((x.length : Int) ≤ 12))) from rfl)) (decide_eq_true (by omega))
        have hn : nm x = (tl x).all isL := by unfold nm; rw [decide_eq_true ⟨h1, h2⟩, Bool.true_and]
        rw [hn]
        refine body_rt (seq_nx (if_ff (or_ff (not_ok hi) (not_ok hc)) rfl) (ret_ok (callb_ok (acons_ok (comp_okL (iter_ok rfl rfl) (by show ((tl x).map _).length ≤ _; rw [List.length_map, ← len_tl]; omega) (comp_map (enc := fun c : Nat => D.str ⟨#[c]⟩) (f := fun c => .bl (isL c)) trivial (tl x) fun c hc => ?_)) rfl) (all_ok isL (tl x)))))
        exact ⟨_, rfl, bin_ok rfl rfl rfl⟩
      · have hc : tTru (lChain gLe2 gLe2 (lC (.int 1)) (lCallB gLen (aCons (lVar 0) aNil)) (lC (.int 12))) [some (.str x), none] S = .ok false S :=
          tru_b (chain_tt rfl (hl _ rfl) (show gLe2 S (.int 1) (.int (x.length : Int)) = some (.bl true) by show some (D.bl (decide ((1 : Int) ≤ x.length))) = _; rw [decide_eq_true (by omega)]) rfl (show gLe2 S (.int (x.length : Int)) (.int 12) = some (.bl (decide ((x.length : Int) ≤ 12))) from rfl)) (decide_eq_false (by omega))
        have hn : nm x = false := by unfold nm; rw [decide_eq_false (by omega), Bool.false_and]
        rw [hn]
        exact body_rt (seq_rt (if_tt (or_ff (not_ok hi) (not_ok hc)) (ret_ok rfl)))
    · have hc : tTru (lChain gLe2 gLe2 (lC (.int 1)) (lCallB gLen (aCons (lVar 0) aNil)) (lC (.int 12))) [some (.str x), none] S = .ok false S :=
        tru_b (chain_ff rfl (hl _ rfl) (show gLe2 S (.int 1) (.int (x.length : Int)) = some (.bl false) by show some (D.bl (decide ((1 : Int) ≤ x.length))) = _; rw [decide_eq_false (by omega)])) rfl
      have hn : nm x = false := by unfold nm; rw [decide_eq_false (by omega), Bool.false_and]
      rw [hn]
      exact body_rt (seq_rt (if_tt (or_ff (not_ok hi) (not_ok hc)) (ret_ok rfl)))
  | _ => exact body_rt (seq_rt (if_tt (or_tt (not_ok (no _ (isi_ok rfl rfl)))) (ret_ok rfl)))
theorem ok_pair (T : T10 K mg) : ∃ g, FnL P w K mg base 2 T.f_is_pair T.fd_is_pair ["thing"] g ∧ SPair g := by
  obtain ⟨gn, Fn_is_name, Sn⟩ := ok_name (P := P) (w := w) (base := base) T
  refine ⟨_, Fun.okL T.F_is_pair sc_is_pair fun cdv A outer s H E hr =>
(pssl_one (psl_ret (pel_and (pel_isi rfl T.n_isinstance (pel_var (i := 0)) (pe_bltn rfl T.n_tuple (v := .ty "tuple") (u := .type "tuple") (by decide +kernel) rfl) (.ty _) isi_tupleA) (pel_and (pel_cmp (opl_eq hr.units) (pel_callB (cl_len) rfl T.n_len (by decide +kernel) (pal_cons (pel_var (i := 0)) pal_nil)) pel_int) (pel_and (pel_call Fn_is_name (hr.mono (by decide)) rfl T.mg_is_name T.F_is_name.kp T.b_is_name dfl_nil (pal_cons (pel_ix ixl_seq (pel_var (i := 0)) pel_int) pal_nil)) (pel_one (pel_call Fn_is_name (hr.mono (by decide)) rfl T.mg_is_name T.F_is_name.kp T.b_is_name dfl_nil (pal_cons (pel_ix ixl_seq (pel_var (i := 0)) pel_int) pal_nil)))))))), ?_⟩
  intro S d hd
  obtain ⟨hd, hx⟩ := hd
  cases d with
  | ref _ => cases hd
  | obj _ _ => cases hd
  | exn _ _ => cases hd
  | ftup _ => cases hd
  | dcn _ _ => cases hd
  | fdct _ => cases hd
  | fn _ => cases hd
  | tup xs =>
    have hx := hx xs rfl
    have hlen : ∀ ρ : Ev, ρ[0]? = some (some (.tup xs)) → lBin gEq (lCallB gLen (aCons (lVar 0) aNil)) (lC (.int 2)) ρ S = .ok (.bl (decide ((xs.length : Int) = 2))) S := fun ρ h => bin_ok (callb_ok (acons_ok (by unfold lVar; rw [h]) rfl) rfl) rfl eq_ii
    match xs, hx, hlen with
    | [], _, hlen => exact body_rt (ret_ok (andv_tt (d := .bl true) (isi_ok rfl rfl) rfl (andv_ff (d := .bl false) (hlen _ rfl) rfl)))
    | [_], _, hlen => exact body_rt (ret_ok (andv_tt (d := .bl true) (isi_ok rfl rfl) rfl (andv_ff (d := .bl false) (hlen _ rfl) rfl)))
    | a :: b :: c :: r, _, hlen =>
      rw [decide_eq_false (by simp only [List.length_cons]; omega)] at hlen
      exact body_rt (ret_ok (andv_tt (d := .bl true) (isi_ok rfl rfl) rfl (andv_ff (d := .bl false) (hlen _ rfl) rfl)))
    | [a, b], hx, hlen =>
      have c0 : ∀ ρ : Ev, ρ[0]? = some (some (.tup [a, b])) → lCall 1 gn [] (aCons (lBin gIx (lVar 0) (lC (.int 0))) aNil) ρ S = .ok (.bl (nmD a)) S := fun ρ h => call_ok (acons_ok (bin_ok (by unfold lVar; rw [h]) rfl rfl) rfl) rfl (Sn S a (hx a (by simp)))
      have c1 : ∀ ρ : Ev, ρ[0]? = some (some (.tup [a, b])) → lCall 1 gn [] (aCons (lBin gIx (lVar 0) (lC (.int 1))) aNil) ρ S = .ok (.bl (nmD b)) S := fun ρ h => call_ok (acons_ok (bin_ok (by unfold lVar; rw [h]) rfl rfl) rfl) rfl (Sn S b (hx b (by simp)))
      show _ = R.ok (D.bl (nmD a && nmD b)) S
      refine body_rt (ret_ok (andv_tt (d := .bl true) (isi_ok rfl rfl) rfl (andv_tt (d := .bl true) (hlen _ rfl) rfl ?_)))
      cases q : nmD a with
      | false => exact andv_ff (d := .bl false) ((c0 _ rfl).trans (by rw [q])) rfl
      | true => exact andv_tt (d := .bl true) ((c0 _ rfl).trans (by rw [q])) rfl (c1 _ rfl)
  | _ => exact body_rt (ret_ok (andv_ff (d := .bl false) (isi_ok rfl rfl) rfl))
theorem ok_rise (T : T10 K mg) : ∃ g, FnL P w K mg base 1 T.f_does_rise T.fd_does_rise ["things"] g ∧ SRise g := by
  refine ⟨_, Fun.okL T.F_does_rise sc_does_rise fun cdv A outer s H E hr =>
(pssl_one (psl_ret (pel_callB (cl_all rfl) rfl T.n_all (by decide +kernel) (pal_cons (pel_lc (own := [("one", 1), ("other", 2)]) rfl sc_does_rise.nd (pil_zip rfl T.n_zip (pal_cons (pel_var (i := 0)) (pal_cons (pel_slice sll_any (pel_var (i := 0)) (pol_some pel_int) pol_none) pal_nil))) (blkOk_by (N := N_does_rise) (sc := defScope s_does_rise) (by decide +kernel)) (fun _ _ _ _ _ => (pgl_tup (n := 2) rfl (pgsl_cons (pgl_name (i := 1) sc_does_rise.nd) (pgsl_cons (pgl_name (i := 2) sc_does_rise.nd) pgsl_nil)))) (fun _ _ _ _ _ => ptsl_nil) (fun _ _ _ _ _ => (pel_cmp (opl_lt2 hr.units) (pel_var (i := 1)) (pel_var (i := 2))))) pal_nil)))), ?_⟩
  intro S ps hl
  have hz : lZip (aCons (lVar 0) (aCons (lSlice gSlice (lVar 0) (oSome (lC (.int 1))) oNone) aNil)) [some (.tup (psD ps)), none, none] S = .ok ⟨(ps.zip (ps.drop 1)).map fun q => D.tup [pD q.1, pD q.2], fun _ => True⟩ S := by
    refine zip_ok (acons_ok rfl (acons_ok (slice_ok rfl (osome_ok rfl) rfl (show gSlice S (.tup (psD ps)) (some 1) none = some (.tup (psD (ps.drop 1))) from ?_)) rfl)) (by rw [← zip_ps]; rfl)
    show some (D.tup (MP.cutD (psD ps) (some 1) none)) = _
    rw [cut1]
    unfold psD
    rw [List.map_drop]
  refine body_rt (ret_ok (callb_ok (acons_ok (comp_okL hz (by simp; omega) (comp_map (f := fun q => .bl (riP q)) trivial _ fun q hq => ⟨_, rfl, bin_ok rfl rfl rfl⟩)) rfl) (all_ok riP _)))
end
end K10

namespace K10
open PySem PySem.Spec PyProof.Rows L2 MP TL
open K06 (riP Cd cd_of cd_repr)
open K59 (Pr nm givs taks slt isL lets nm_ok sle sorted_strs cnt_nodup)
/-! ### what a circle is made of -/
def rsP (ps : List Pr) : Bool := (ps.zip (ps.drop 1)).all riP
def nmP (p : Pr) : Prop := nm p.1 = true ∧ nm p.2 = true
/-- a name with a house, or without one -/
def gdP (p : Pr) : Prop := nm p.1 = true ∧ (p.2 = "" ∨ nm p.2 = true)
def riseS (ys : List Str) : Bool := (ys.zip (ys.drop 1)).all fun q => slt q.1 q.2
theorem nm_len {y : Str} (hy : nm y = true) : y.length ≤ 100000 := by
  unfold nm at hy
  rw [Bool.and_eq_true] at hy
  have := (of_decide_eq_true hy.1).2
  omega
theorem gdP.len {p : Pr} (h : gdP p) : p.1.length ≤ 100000 ∧ p.2.length ≤ 100000 := ⟨nm_len h.1, by
  rcases h.2 with e | e
  · rw [e]; decide
  · exact nm_len e⟩
theorem nmP.gd {p : Pr} (h : nmP p) : gdP p := ⟨h.1, .inr h.2⟩
theorem pD_in1 {p : Pr} (h : gdP p) : In1 (pD p) := ⟨rfl, fun xs e x hx => by
  have e' : xs = [.str p.1, .str p.2] := by
    injection e with e
    exact e.symm
  subst e'
  simp only [List.mem_cons, List.not_mem_nil, or_false] at hx
  rcases hx with rfl | rfl
  · exact decide_eq_true h.len.1
  · exact decide_eq_true h.len.2⟩
def tfD (f : Bool) (xs : List D) : D := if f then .ftup xs else .tup xs
def SPairs (g : F) : Prop := ∀ (S : Sto) (ps : List Pr), ps.length ≤ 1000 → (∀ p ∈ ps, nmP p) → g [.tup (psD ps)] S = .ok (.bl (rsP ps)) S
def SMember (g : F) : Prop := ∀ (S : Sto) (p : Pr), gdP p → g [pD p] S = .ok (.bl true) S
def SMembers (g : F) : Prop := ∀ (S : Sto) (f : Bool) (ps : List Pr), ps.length ≤ 1000 → (∀ p ∈ ps, gdP p) → g [tfD f (psD ps)] S = .ok (.bl (riseS (givs ps))) S
def SYears (g : F) : Prop := ∀ (S : Sto) (ps : List Pr), ps.length ≤ 1000 → (∀ p ∈ ps, nmP p) → rsP ps = true → g [.tup [.tup (psD ps)]] S = .ok (.bl true) S
def SIsCircle (g : F) : Prop := ∀ (S : Sto) (f : Bool) (ms bs ys : List Pr), ms.length ≤ 1000 → (∀ p ∈ ms, gdP p) → bs.length ≤ 1000 → (∀ p ∈ bs, nmP p) → rsP bs = true → ys.length ≤ 1000 → (∀ p ∈ ys, nmP p) → rsP ys = true → g [tfD f (psD ms), .tup (psD bs), .tup [.tup (psD ys)], .int 1] S = .ok (.bl (riseS (givs ms))) S
section
variable {P : Program} {w : World} {K : PySem.W.Frag} {mg : Str → Option Value} {base : Heap}
theorem ok_pairs (T : T10 K mg) : ∃ g, FnL P w K mg base 3 T.f_are_pairs T.fd_are_pairs ["thing"] g ∧ SPairs g := by
  obtain ⟨gp, Fn_is_pair, Sp⟩ := ok_pair (P := P) (w := w) (base := base) T
  obtain ⟨gr, Fn_does_rise, Sr⟩ := ok_rise (P := P) (w := w) (base := base) T
  refine ⟨_, Fun.okL T.F_are_pairs sc_are_pairs fun cdv A outer s H E hr =>
(pssl_one (psl_ret (pel_and (pel_isi rfl T.n_isinstance (pel_var (i := 0)) (pe_bltn rfl T.n_tuple (v := .ty "tuple") (u := .type "tuple") (by decide +kernel) rfl) (.ty _) isi_tupleA) (pel_and (pel_callB (cl_all rfl) rfl T.n_all (by decide +kernel) (pal_cons (pel_lc (own := [("one", 1)]) rfl sc_are_pairs.nd (pil_val (pel_var (i := 0))) (blkOk_by (N := N_are_pairs) (sc := defScope s_are_pairs) (by decide +kernel)) (fun _ _ _ _ _ => (pgl_name (i := 1) sc_are_pairs.nd)) (fun _ _ _ _ _ => ptsl_nil) (fun _ _ _ _ _ => (pel_call Fn_is_pair (hr.mono (by decide)) rfl T.mg_is_pair T.F_is_pair.kp T.b_is_pair dfl_nil (pal_cons (pel_var (i := 1)) pal_nil)))) pal_nil)) (pel_one (pel_call Fn_does_rise (hr.mono (by decide)) rfl T.mg_does_rise T.F_does_rise.kp T.b_does_rise dfl_nil (pal_cons (pel_var (i := 0)) pal_nil))))))), ?_⟩
  intro S ps hl hn
  have hc : lComp (lIter (lVar 0)) [1] (gtName 1) tYesL (lCall 1 gp [] (aCons (lVar 1) aNil)) [some (.tup (psD ps)), none] S = .ok (.lst (ps.map fun p => D.bl (prD (pD p)))) S :=
    comp_okL (iter_ok rfl rfl) (by rw [psD_len]; omega) (comp_map (enc := pD) (f := fun p => D.bl (prD (pD p))) trivial ps fun p hp => ⟨_, rfl, call_ok (acons_ok rfl rfl) rfl (Sp S _ (pD_in1 (hn p hp).gd))⟩)
  have ha := all_ok (S := S) (fun p : Pr => prD (pD p)) ps
  have ht : ps.all (fun p => prD (pD p)) = true := List.all_eq_true.mpr fun p hp => by
    show (nm p.1 && nm p.2) = true
    rw [(hn p hp).1, (hn p hp).2]
    rfl
  rw [ht] at ha
  have hr : gr [.tup (psD ps)] S = .ok (.bl (rsP ps)) S := Sr S ps (by omega)
  exact body_rt (ret_ok (andv_tt (d := .bl true) (isi_ok rfl rfl) rfl (andv_tt (d := .bl true) (callb_ok (acons_ok hc rfl) ha) rfl (call_ok (acons_ok rfl rfl) rfl hr))))
theorem ok_member (T : T10 K mg) : ∃ g, FnL P w K mg base 2 T.f_is_member T.fd_is_member ["thing"] g ∧ SMember g := by
  obtain ⟨gn, Fn_is_name, Sn⟩ := ok_name (P := P) (w := w) (base := base) T
  refine ⟨_, Fun.okL T.F_is_member sc_is_member fun cdv A outer s H E hr =>
(pssl_cons (psl_if (PWL.pt (pwl_or (ptl_not (ptl_truth (pel_isi rfl T.n_isinstance (pel_var (i := 0)) (pe_bltn rfl T.n_tuple (v := .ty "tuple") (u := .type "tuple") (by decide +kernel) rfl) (.ty _) isi_tupleA))) (pwl_or (ptl_cmp (opl_ne hr.units) (pel_callB (cl_len) rfl T.n_len (by decide +kernel) (pal_cons (pel_var (i := 0)) pal_nil)) pel_int) (pwl_or1 (ptl_not (ptl_truth (pel_call Fn_is_name (hr.mono (by decide)) rfl T.mg_is_name T.F_is_name.kp T.b_is_name dfl_nil (pal_cons (pel_ix ixl_seq (pel_var (i := 0)) pel_int) pal_nil)))))))) (pssl_one (psl_ret pel_bl)) pssl_nil)
  (pssl_one (psl_ret (pel_or (pel_call Fn_is_name (hr.mono (by decide)) rfl T.mg_is_name T.F_is_name.kp T.b_is_name dfl_nil (pal_cons (pel_ix ixl_seq (pel_var (i := 0)) pel_int) pal_nil)) (pel_one (pel_and (pel_isi rfl T.n_isinstance (pel_ix ixl_seq (pel_var (i := 0)) pel_int) (pe_bltn rfl T.n_str (v := .ty "str") (u := .type "str") (by decide +kernel) rfl) (.ty _) isi_strA) (pel_one (pel_cmp (opl_eq hr.units) (pel_ix ixl_seq (pel_var (i := 0)) pel_int) pel_str)))))))), ?_⟩
  intro S p hp
  obtain ⟨a, b⟩ := p
  have hl := hp.len
  dsimp only at hl
  have i1 : tTru (lIsi tabTupA (lVar 0)) [some (pD (a, b))] S = .ok true S := tru_b (isi_ok rfl rfl) rfl
  have hlen : tTru (lBin gNe (lCallB gLen (aCons (lVar 0) aNil)) (lC (.int 2))) [some (pD (a, b))] S = .ok false S := tru_b (bin_ok (callb_ok (acons_ok rfl rfl) rfl) rfl ne_ii) rfl
  have c0 : tTru (lCall 1 gn [] (aCons (lBin gIx (lVar 0) (lC (.int 0))) aNil)) [some (pD (a, b))] S = .ok true S := tru_b (call_ok (acons_ok (bin_ok rfl rfl rfl) rfl) rfl (Sn S (.str a) (decide_eq_true hl.1))) hp.1
  have c1 : lCall 1 gn [] (aCons (lBin gIx (lVar 0) (lC (.int 1))) aNil) [some (pD (a, b))] S = .ok (.bl (nm b)) S := call_ok (acons_ok (bin_ok rfl rfl rfl) rfl) rfl (Sn S (.str b) (decide_eq_true hl.2))
  refine body_rt (seq_nx (if_ff (or_ff (not_ok i1) (or_ff hlen (not_ok c0))) rfl) (ret_ok ?_))
  cases q : nm b with
  | true =>
    rw [q] at c1
    exact orv_tt (d := .bl true) c1 rfl
  | false =>
    rw [q] at c1
    have e : b = "" := hp.2.resolve_right (by rw [q]; exact Bool.false_ne_true)
    exact orv_ff (d := .bl false) c1 rfl (andv_tt (d := .bl true) (isi_ok (bin_ok rfl rfl rfl) rfl) rfl (bin_ok (bin_ok rfl rfl rfl) rfl (eq_ss.trans (by rw [decide_eq_true e]))))
theorem ok_members (T : T10 K mg) : ∃ g, FnL P w K mg base 3 T.f_are_members T.fd_are_members ["thing"] g ∧ SMembers g := by
  obtain ⟨gp, Fn_is_member, Sp⟩ := ok_member (P := P) (w := w) (base := base) T
  refine ⟨_, Fun.okL T.F_are_members sc_are_members fun cdv A outer s H E hr =>
(pssl_cons (psl_if (PWL.pt (pwl_or (ptl_not (ptl_truth (pel_isi rfl T.n_isinstance (pel_var (i := 0)) (pe_bltn rfl T.n_tuple (v := .ty "tuple") (u := .type "tuple") (by decide +kernel) rfl) (.ty _) isi_tupleA))) (pwl_or1 (ptl_not (ptl_truth (pel_callB (cl_all rfl) rfl T.n_all (by decide +kernel) (pal_cons (pel_lc (own := [("one", 1)]) rfl sc_are_members.nd (pil_val (pel_var (i := 0))) (blkOk_by (N := N_are_members) (sc := defScope s_are_members) (by decide +kernel)) (fun _ _ _ _ _ => (pgl_name (i := 1) sc_are_members.nd)) (fun _ _ _ _ _ => ptsl_nil) (fun _ _ _ _ _ => (pel_call Fn_is_member (hr.mono (by decide)) rfl T.mg_is_member T.F_is_member.kp T.b_is_member dfl_nil (pal_cons (pel_var (i := 1)) pal_nil)))) pal_nil))))))) (pssl_one (psl_ret pel_bl)) pssl_nil)
  (pssl_one (psl_ret (pel_callB (cl_all rfl) rfl T.n_all (by decide +kernel) (pal_cons (pel_lc (own := [("one", 1), ("other", 2)]) rfl sc_are_members.nd (pil_zip rfl T.n_zip (pal_cons (pel_var (i := 0)) (pal_cons (pel_slice sll_any (pel_var (i := 0)) (pol_some pel_int) pol_none) pal_nil))) (blkOk_by (N := N_are_members) (sc := defScope s_are_members) (by decide +kernel)) (fun _ _ _ _ _ => (pgl_tup (n := 2) rfl (pgsl_cons (pgl_name (i := 1) sc_are_members.nd) (pgsl_cons (pgl_name (i := 2) sc_are_members.nd) pgsl_nil)))) (fun _ _ _ _ _ => ptsl_nil) (fun _ _ _ _ _ => (pel_cmp (opl_lt2 hr.units) (pel_ix ixl_seq (pel_var (i := 1)) pel_int) (pel_ix ixl_seq (pel_var (i := 2)) pel_int)))) pal_nil))))), ?_⟩
  intro S f ps hl hg
  have er : riseS (givs ps) = (ps.zip (ps.drop 1)).all fun q => slt q.1.1 q.2.1 := by
    unfold riseS givs
    rw [← List.map_drop, List.zip_map, List.all_map]
    rfl
  rw [er]
  have key : ∀ d : D, (d = .tup (psD ps) ∨ d = .ftup (psD ps)) → tTru (lIsi tabTupA (lVar 0)) [some d, none, none] S = .ok true S ∧ tTru (lCallB gAll (aCons (lComp (lIter (lVar 0)) [1] (gtName 1) tYesL (lCall 1 gp [] (aCons (lVar 1) aNil))) aNil)) [some d, none, none] S = .ok true S ∧ lZip (aCons (lVar 0) (aCons (lSlice gSlice (lVar 0) (oSome (lC (.int 1))) oNone) aNil)) [some d, none, none] S = .ok ⟨(ps.zip (ps.drop 1)).map fun q => D.tup [pD q.1, pD q.2], fun _ => True⟩ S := by
    intro d hd
    have ht : ps.all (fun _ => true) = true := List.all_eq_true.mpr fun _ _ => rfl
    have ha := all_ok (S := S) (fun _ : Pr => true) ps
    rw [ht] at ha
    rcases hd with rfl | rfl
    · refine ⟨tru_b (isi_ok rfl rfl) rfl, tru_b (callb_ok (acons_ok (comp_okL (iter_ok rfl rfl) (by rw [psD_len]; omega) (comp_map (enc := pD) (f := fun _ => D.bl true) trivial ps fun p hp => ⟨_, rfl, call_ok (acons_ok rfl rfl) rfl (Sp S p (hg p hp))⟩)) rfl) ha) rfl, ?_⟩
      refine zip_ok (acons_ok rfl (acons_ok (slice_ok rfl (osome_ok rfl) rfl (show gSlice S (.tup (psD ps)) (some 1) none = some (.tup (psD (ps.drop 1))) from ?_)) rfl)) (by rw [← zip_ps]; rfl)
      show some (D.tup (MP.cutD (psD ps) (some 1) none)) = _
      rw [cut1]
      unfold psD
      rw [List.map_drop]
    · refine ⟨tru_b (isi_ok rfl rfl) rfl, tru_b (callb_ok (acons_ok (comp_okL (iter_ok rfl rfl) (by rw [psD_len]; omega) (comp_map (enc := pD) (f := fun _ => D.bl true) trivial ps fun p hp => ⟨_, rfl, call_ok (acons_ok rfl rfl) rfl (Sp S p (hg p hp))⟩)) rfl) ha) rfl, ?_⟩
      cases ps with
      | nil => exact zip_ok (acons_ok rfl (acons_ok (slice_ok rfl (osome_ok rfl) rfl rfl) rfl)) rfl
      | cons p ps =>
        have e : gSlice S (.ftup (psD (p :: ps))) (some 1) none = some (.tup (psD ((p :: ps).drop 1))) := by
          unfold gSlice
          dsimp only [vw]
          rw [if_neg (fun z => by
            have h1 : HT.sIx (psD (p :: ps)).length 0 (some 1) = min (1 : Int).toNat (psD (p :: ps)).length := by
              unfold HT.sIx
              dsimp only
              rw [if_neg (by omega)]
            rw [h1, psD_len, List.length_cons] at z
            have := z.1
            omega), cut1]
          unfold psD
          rw [List.map_drop]
        exact zip_ok (acons_ok rfl (acons_ok (slice_ok rfl (osome_ok rfl) rfl e) rfl)) (by rw [← zip_ps]; rfl)
  have hd : tfD f (psD ps) = .tup (psD ps) ∨ tfD f (psD ps) = .ftup (psD ps) := by cases f <;> simp [tfD]
  obtain ⟨i1, ha, hz⟩ := key _ hd
  exact body_rt (seq_nx (if_ff (or_ff (not_ok i1) (not_ok ha)) rfl) (ret_ok (callb_ok (acons_ok (comp_okL hz (by simp; omega) (comp_map (f := fun q => .bl (slt q.1.1 q.2.1)) trivial _ fun q hq => ⟨_, rfl, bin_ok (bin_ok rfl rfl rfl) (bin_ok rfl rfl rfl) rfl⟩)) rfl) (all_ok (fun q : Pr × Pr => slt q.1.1 q.2.1) _))))
theorem ok_years (T : T10 K mg) : ∃ g, FnL P w K mg base 4 T.f_are_years T.fd_are_years ["thing"] g ∧ SYears g := by
  obtain ⟨gp, Fn_are_pairs, Sp⟩ := ok_pairs (P := P) (w := w) (base := base) T
  refine ⟨_, Fun.okL T.F_are_years sc_are_years fun cdv A outer s H E hr =>
(pssl_one (psl_ret (pel_and (pel_isi rfl T.n_isinstance (pel_var (i := 0)) (pe_bltn rfl T.n_tuple (v := .ty "tuple") (u := .type "tuple") (by decide +kernel) rfl) (.ty _) isi_tupleA) (pel_one (pel_callB (cl_all rfl) rfl T.n_all (by decide +kernel) (pal_cons (pel_lc (own := [("year", 1)]) rfl sc_are_years.nd (pil_val (pel_var (i := 0))) (blkOk_by (N := N_are_years) (sc := defScope s_are_years) (by decide +kernel)) (fun _ _ _ _ _ => (pgl_name (i := 1) sc_are_years.nd)) (fun _ _ _ _ _ => ptsl_nil) (fun _ _ _ _ _ => (pel_call Fn_are_pairs (hr.mono (by decide)) rfl T.mg_are_pairs T.F_are_pairs.kp T.b_are_pairs dfl_nil (pal_cons (pel_var (i := 1)) pal_nil)))) pal_nil)))))), ?_⟩
  intro S ps hl hn hrs
  have e := Sp S ps hl hn
  rw [hrs] at e
  have hc : lComp (lIter (lVar 0)) [1] (gtName 1) tYesL (lCall 1 gp [] (aCons (lVar 1) aNil)) [some (.tup [.tup (psD ps)]), none] S = .ok (.lst [.bl true]) S :=
    comp_okL (iter_ok rfl rfl) (by simp) (comp_map (enc := fun ps => D.tup (psD ps)) (f := fun _ => D.bl true) trivial [ps] fun q hq => ⟨_, rfl, call_ok (acons_ok rfl rfl) rfl (by rw [List.mem_singleton.mp hq]; exact e)⟩)
  exact body_rt (ret_ok (andv_tt (d := .bl true) (isi_ok rfl rfl) rfl (callb_ok (acons_ok hc rfl) (all_ok (fun _ : Unit => true) [()]))))
theorem ok_circle (T : T10 K mg) : ∃ g, FnL P w K mg base 5 T.f_is_circle T.fd_is_circle ["members", "bars", "past", "gap"] g ∧ SIsCircle g := by
  obtain ⟨gm, Fn_are_members, Sm⟩ := ok_members (P := P) (w := w) (base := base) T
  obtain ⟨gp, Fn_are_pairs, Sp⟩ := ok_pairs (P := P) (w := w) (base := base) T
  obtain ⟨gy, Fn_are_years, Sy⟩ := ok_years (P := P) (w := w) (base := base) T
  refine ⟨_, Fun.okL T.F_is_circle sc_is_circle fun cdv A outer s H E hr =>
(pssl_cons (psl_if (PWL.pt (pwl_or (ptl_not (ptl_truth (pel_call Fn_are_members (hr.mono (by decide)) rfl T.mg_are_members T.F_are_members.kp T.b_are_members dfl_nil (pal_cons (pel_var (i := 0)) pal_nil)))) (pwl_or1 (PWL.pt (pwl_and (ptl_cmp opl_notN (pel_var (i := 1)) pel_non) (pwl_and1 (ptl_not (ptl_truth (pel_call Fn_are_pairs (hr.mono (by decide)) rfl T.mg_are_pairs T.F_are_pairs.kp T.b_are_pairs dfl_nil (pal_cons (pel_var (i := 1)) pal_nil)))))))))) (pssl_one (psl_ret pel_bl)) pssl_nil)
  (pssl_cons (psl_if (PWL.pt (pwl_and (ptl_cmp opl_notN (pel_var (i := 2)) pel_non) (pwl_and1 (ptl_not (ptl_truth (pel_call Fn_are_years (hr.mono (by decide)) rfl T.mg_are_years T.F_are_years.kp T.b_are_years dfl_nil (pal_cons (pel_var (i := 2)) pal_nil))))))) (pssl_one (psl_ret pel_bl)) pssl_nil)
  (pssl_cons (psl_if (PWL.pt (pwl_or (ptl_not (ptl_truth (pel_isi rfl T.n_isinstance (pel_var (i := 3)) (pe_bltn rfl T.n_int (v := .ty "int") (u := .type "int") (by decide +kernel) rfl) (.ty _) isi_intA))) (pwl_or1 (ptl_truth (pel_isi rfl T.n_isinstance (pel_var (i := 3)) (pe_bltn rfl T.n_bool (v := .ty "bool") (u := .type "bool") (by decide +kernel) rfl) (.ty _) isi_boolA))))) (pssl_one (psl_ret pel_bl)) pssl_nil)
  (pssl_one (psl_ret (pel_and (pel_cmp opl_geI (pel_var (i := 3)) pel_int) (pel_one (pel_cmp opl_le2 (pel_callB (cl_len) rfl T.n_len (by decide +kernel) (pal_cons (pel_callTy (cl_str) rfl T.n_str (by decide +kernel) (pal_cons (pel_var (i := 3)) pal_nil)) pal_nil)) (pel_gint rfl T.mg_MOST_FIGURES))))))))), ?_⟩
  intro S f ms bs ys l1 g1 l2 g2 r2 l3 g3 r3
  have e2 := Sp S bs l2 g2
  rw [r2] at e2
  have e1 := Sm S f ms l1 g1
  generalize tfD f (psD ms) = m at e1 ⊢
  have t1 : tTru (lCall 1 gm [] (aCons (lVar 0) aNil)) [some m, some (.tup (psD bs)), some (.tup [.tup (psD ys)]), some (.int 1)] S = .ok (riseS (givs ms)) S := tru_b (call_ok (acons_ok rfl rfl) rfl e1) rfl
  have t2 : tTru (lCall 1 gp [] (aCons (lVar 1) aNil)) [some m, some (.tup (psD bs)), some (.tup [.tup (psD ys)]), some (.int 1)] S = .ok true S := tru_b (call_ok (acons_ok rfl rfl) rfl e2) rfl
  have t3 : tTru (lCall 1 gy [] (aCons (lVar 2) aNil)) [some m, some (.tup (psD bs)), some (.tup [.tup (psD ys)]), some (.int 1)] S = .ok true S := tru_b (call_ok (acons_ok rfl rfl) rfl (Sy S ys l3 g3 r3)) rfl
  have n1 : tTru (lBin gNotN (lVar 1) (lC .non)) [some m, some (.tup (psD bs)), some (.tup [.tup (psD ys)]), some (.int 1)] S = .ok true S := tru_b (bin_ok rfl rfl rfl) rfl
  have n2 : tTru (lBin gNotN (lVar 2) (lC .non)) [some m, some (.tup (psD bs)), some (.tup [.tup (psD ys)]), some (.int 1)] S = .ok true S := tru_b (bin_ok rfl rfl rfl) rfl
  cases q : riseS (givs ms) with
  | false =>
    rw [q] at t1
    exact body_rt (seq_rt (if_tt (or_tt (not_ok t1)) (ret_ok rfl)))
  | true =>
    rw [q] at t1
    have hs : gStr S [.int 1] = some (.str "1") := by
      show (if (1 : Int).natAbs.log2 < 1920 then some (D.str (toString (1 : Int))) else none) = _
      rw [if_pos (by decide)]
      rfl
    exact body_rt (seq_nx (if_ff (or_ff (not_ok t1) (and_tt n1 (not_ok t2))) rfl) (seq_nx (if_ff (and_tt n2 (not_ok t3)) rfl) (seq_nx (if_ff (or_ff (not_ok (b := true) (tru_b (isi_ok rfl rfl) rfl)) (tru_b (isi_ok rfl rfl) rfl)) rfl) (ret_ok (andv_tt (d := .bl true) (bin_ok rfl rfl rfl) rfl (bin_ok (callb_ok (acons_ok (callb_ok (acons_ok rfl rfl) hs) rfl) rfl) rfl rfl))))))
end
end K10

namespace K10
open PySem PySem.Spec PyProof.Rows L2 MP TL
open K06 (riP Cd cd_of cd_repr)
open K59 (Pr nm givs taks slt isL lets nm_ok sle sorted_strs cnt_nodup slt_trans slt_irrefl)
theorem psD_inj : ∀ {ps qs : List Pr}, psD ps = psD qs → ps = qs
  | [], [], _ => rfl
  | [], _ :: _, h => by cases h
  | _ :: _, [], h => by cases h
  | (a, b) :: ps, (c, d) :: qs, h => by
    have h' : D.tup [.str a, .str b] :: psD ps = D.tup [.str c, .str d] :: psD qs := h
    injection h' with h1 h2
    injection h1 with h1
    injection h1 with h3 h4
    injection h3 with h3
    injection h4 with h4 _
    injection h4 with h4
    rw [h3, h4, psD_inj h2]
theorem below_ps {n : Nat} : ∀ ps : List Pr, belows n (psD ps) = true
  | [] => rfl
  | p :: ps => by
    show (below n (.tup [.str p.1, .str p.2]) && belows n (psD ps)) = true
    rw [below_ps ps]
    rfl
theorem below_strs {n : Nat} : ∀ xs : List Str, belows n (xs.map D.str) = true
  | [] => rfl
  | x :: xs => by
    show (true && belows n (xs.map D.str)) = true
    rw [below_strs xs]
    rfl
theorem st_new {C : Addr} {f : Str} {S : Sto} {fs : List (Str × D)} {d : D} (h : fs.length < 1000) : stFld C f (S ++ [.ins C fs]) (.ref S.length) d = some (S ++ [.ins C (putD f d fs)]) := by
  unfold stFld
  have e : (S ++ [O.ins C fs])[S.length]? = some (.ins C fs) := by simp
  have e2 : (S ++ [O.ins C fs]).set S.length (.ins C (putD f d fs)) = S ++ [.ins C (putD f d fs)] := by simp
  dsimp only
  rw [e]
  dsimp only
  rw [if_pos ⟨rfl, h⟩, e2]
/-! ### drawings made -/
theorem eqvAll_strs : ∀ as bs : List Str, PyData.eqvAll (as.map PyData.str) (bs.map PyData.str) = decide (as = bs)
  | [], [] => by simp [PyData.eqvAll]
  | [], _ :: _ => by simp [PyData.eqvAll]
  | _ :: _, [] => by simp [PyData.eqvAll]
  | a :: as, b :: bs => by
    have ih := eqvAll_strs as bs
    have hb : (a == b) = decide (a = b) := by
      rw [Bool.eq_iff_iff]
      simp
    simp [PyData.eqvAll, PyData.eqv, ih, hb]
theorem eq_strs {S : Sto} {as bs : List Str} (ha : ∀ y ∈ as, PyData.strOk y = true) (hb : ∀ y ∈ bs, PyData.strOk y = true) : gEq S (.lst (as.map D.str)) (.lst (bs.map D.str)) = some (.bl (decide (as = bs))) := by
  have e1 : toPD (.lst (as.map D.str)) = some (.list (as.map PyData.str)) := by simp [toPD, K59.toPDs_str]
  have e2 : toPD (.lst (bs.map D.str)) = some (.list (bs.map PyData.str)) := by simp [toPD, K59.toPDs_str]
  have e : eqP S (.lst (as.map D.str)) (.lst (bs.map D.str)) = some (decide (as = bs)) := by
    unfold eqP
    dsimp only [vw]
    rw [e1, e2]
    show (if SeqAt.shaped (.list (as.map PyData.str)) = true ∧ SeqAt.shaped (.list (bs.map PyData.str)) = true then some (PyData.eqv (.list (as.map PyData.str)) (.list (bs.map PyData.str))) else none) = _
    rw [if_pos ⟨K59.shaped_str ha, K59.shaped_str hb⟩]
    simp [PyData.eqv, eqvAll_strs]
  unfold gEq eqD
  rw [e]
  rfl
def GoodP (ps : List Pr) : Prop := ps.length ≤ 30 ∧ (∀ p ∈ ps, nmP p) ∧ rsP ps = true ∧ (givs ps).Nodup ∧ (taks ps).mergeSort sle = givs ps
def drD (C : Addr) (ps : List Pr) : D := .obj C [("pairs", .tup (psD ps))]
def SPairsF (g : F) : Prop := ∀ (S : Sto) (ps : List Pr), GoodP ps → g [.tup (psD ps)] S = .ok (.bl true) S
open Classical in
noncomputable def drF (C : Addr) : F := fun ds S => match ds with
  | [.tup xs] => if ∃ ps, xs = psD ps ∧ GoodP ps then .ok (.obj C [("pairs", .tup xs)]) S else .bad
  | _ => .bad
theorem drF_of {C : Addr} {ps : List Pr} {S : Sto} (h : GoodP ps) : drF C [.tup (psD ps)] S = .ok (drD C ps) S := if_pos ⟨ps, rfl, h⟩
theorem fz_dr {C : Addr} {S : Sto} {ps : List Pr} : drD C ps = fz (S ++ [O.ins C [("pairs", .tup (psD ps))]]) S.length (.ref S.length) := by
  have e : (S ++ [O.ins C [("pairs", D.tup (psD ps))]])[S.length]? = some (.ins C [("pairs", .tup (psD ps))]) := by simp
  have e0 : fz0 (S ++ [O.ins C [("pairs", D.tup (psD ps))]]) S.length (.ref S.length) = drD C ps := by
    unfold fz0
    dsimp only
    rw [if_neg (Nat.lt_irrefl _)]
    unfold vw
    dsimp only
    rw [e]
    rfl
  unfold fz
  rw [e0]
  rfl
theorem fld_dr {C : Addr} {S : Sto} {ρ : Ev} {i : Nat} {ps : List Pr} (h : ρ[i]? = some (some (drD C ps))) : lFld C "pairs" (lVar i) ρ S = .ok (.tup (psD ps)) S := fld_ok (d := drD C ps) (by unfold lVar; rw [h]) (if_pos rfl)
def SSeek (C : Addr) (f v : Pr → Str) (g : F) : Prop := ∀ (S : Sto) (ps : List Pr) (p : Pr), GoodP ps → p ∈ ps → (ps.map f).Nodup → g [drD C ps, .str (f p)] S = .ok (.str (v p)) S
theorem for_rt {ρ0 ρ ρ1 : Ev} {chk : Sto → Prop} {g : GT} {lb : LS} {d e : D} {ds : List D} {S S1 : Sto} (hc : chk S) (hg : g d ρ = some ρ1) (h : lb ρ1 S = .ok (.rt e) S1) : forG ρ0 chk g lb (d :: ds) ρ S = .ok (.rt e) S1 := by
  unfold forG; rw [if_pos hc, hg]; show (lb ρ1 S).bind _ = _; rw [h]; rfl
theorem seek_run {ρ0 : Ev} {g : GT} {lb : LS} {S : Sto} {f v : Pr → Str} {a : Str} (run : ∀ p : Pr, ∃ ρ1 ρ', g (pD p) ρ0 = some ρ1 ∧ (f p = a → lb ρ1 S = .ok (.rt (.str (v p))) S) ∧ (f p ≠ a → lb ρ1 S = .ok (.nx ρ') S) ∧ wk ρ0 ρ' = ρ0) :
    ∀ (ps : List Pr) (p : Pr), p ∈ ps → (ps.map f).Nodup → f p = a → forG ρ0 (fun _ => True) g lb (psD ps) ρ0 S = .ok (.rt (.str (v p))) S
  | [], p, hm, _, _ => by cases hm
  | q :: ps, p, hm, hn, e => by
    obtain ⟨ρ1, ρ', h1, h2, h3, h4⟩ := run q
    rw [List.map_cons, List.nodup_cons] at hn
    by_cases hq : f q = a
    · have hpq : p = q := by
        rcases List.mem_cons.mp hm with h | h
        · exact h
        · exact absurd (show f q ∈ ps.map f by rw [hq, ← e]; exact List.mem_map_of_mem h) hn.1
      rw [hpq]
      exact for_rt trivial h1 (h2 hq)
    · rcases List.mem_cons.mp hm with h | h
      · rw [h] at e
        exact absurd e hq
      · exact for_go trivial h1 (h3 hq) (by rw [h4]; exact seek_run run ps p h hn.2 e)
section
variable {P : Program} {w : World} {K : PySem.W.Frag} {mg : Str → Option Value} {base : Heap}
theorem ok_drawnF (T : T10 K mg) : ∃ g, FnL P w K mg base 4 T.f_are_drawn T.fd_are_drawn ["thing"] g ∧ SPairsF g := by
  obtain ⟨gp, Fn_are_pairs, Sp⟩ := ok_pairs (P := P) (w := w) (base := base) T
  refine ⟨_, Fun.okL T.F_are_drawn sc_are_drawn fun cdv A outer s H E hr =>
(pssl_cons (psl_if (ptl_not (ptl_truth (pel_call Fn_are_pairs (hr.mono (by decide)) rfl T.mg_are_pairs T.F_are_pairs.kp T.b_are_pairs dfl_nil (pal_cons (pel_var (i := 0)) pal_nil)))) (pssl_one (psl_ret pel_bl)) pssl_nil)
  (pssl_cons (psl_setLc (i := 1) (own := [("giver", 2), ("taker", 3)]) sc_are_drawn.nd rfl (sw_true rfl rfl rfl (by decide +kernel)) rfl (pil_val (pel_var (i := 0))) (blkOk_by (N := N_are_drawn) (sc := defScope s_are_drawn) (by decide +kernel)) (.inl rfl) (fun _ _ _ _ _ => (pgl_tup (n := 2) rfl (pgsl_cons (pgl_name (i := 2) sc_are_drawn.nd) (pgsl_cons (pgl_name (i := 3) sc_are_drawn.nd) pgsl_nil)))) (fun _ _ _ _ _ => ptsl_nil) (fun _ _ _ _ _ => (pel_var (i := 2))))
  (pssl_cons (psl_if (ptl_cmp (opl_ne hr.units) (pel_lenSet rfl rfl T.n_len rfl T.n_set (pal_cons (pel_var (i := 1)) pal_nil)) (pel_callB (cl_len) rfl T.n_len (by decide +kernel) (pal_cons (pel_var (i := 1)) pal_nil))) (pssl_one (psl_ret pel_bl)) pssl_nil)
  (pssl_one (psl_ret (pel_cmp (opl_eq hr.units) (pel_callB (cl_sorted hr.units) rfl T.n_sorted (by decide +kernel) (pal_cons (pel_lc (own := [("giver", 2), ("taker", 3)]) rfl sc_are_drawn.nd (pil_val (pel_var (i := 0))) (blkOk_by (N := N_are_drawn) (sc := defScope s_are_drawn) (by decide +kernel)) (fun _ _ _ _ _ => (pgl_tup (n := 2) rfl (pgsl_cons (pgl_name (i := 2) sc_are_drawn.nd) (pgsl_cons (pgl_name (i := 3) sc_are_drawn.nd) pgsl_nil)))) (fun _ _ _ _ _ => ptsl_nil) (fun _ _ _ _ _ => (pel_var (i := 3)))) pal_nil)) (pel_var (i := 1)))))))), ?_⟩
  intro S ps hg
  obtain ⟨hl, hn, hrs, hnd, hsrt⟩ := hg
  have hp := Sp S ps (by omega) hn
  rw [hrs] at hp
  have g1 : ∀ x : Option D, lComp (lIter (lVar 0)) [2, 3] (gtTup 2 (gtCons (gtName 2) (gtCons (gtName 3) gtNil))) tYesL (lVar 2) [some (.tup (psD ps)), x, none, none] S = .ok (.lst ((givs ps).map D.str)) S := fun x => by
    unfold givs
    rw [List.map_map]
    exact comp_okL (iter_ok rfl rfl) (by rw [psD_len]; omega) (comp_map (enc := pD) (f := fun p => .str p.1) trivial ps fun p hp => ⟨_, rfl, rfl⟩)
  have g2 : ∀ x : Option D, lComp (lIter (lVar 0)) [2, 3] (gtTup 2 (gtCons (gtName 2) (gtCons (gtName 3) gtNil))) tYesL (lVar 3) [some (.tup (psD ps)), x, none, none] S = .ok (.lst ((taks ps).map D.str)) S := fun x => by
    unfold taks
    rw [List.map_map]
    exact comp_okL (iter_ok rfl rfl) (by rw [psD_len]; omega) (comp_map (enc := pD) (f := fun p => .str p.2) trivial ps fun p hp => ⟨_, rfl, rfl⟩)
  have gl : (givs ps).length = ps.length := by simp [givs]
  have tl' : (taks ps).length = ps.length := by simp [taks]
  have hcnt : cntS (givs ps) ps.length = ps.length := by
    have := cnt_nodup hnd (givs ps).length (Nat.le_refl _)
    rw [gl] at this
    exact this
  have hset : gLenSet S [.lst ((givs ps).map D.str)] = some (.int (ps.length : Int)) := by
    unfold gLenSet
    dsimp only [vw]
    rw [strsD_map]
    dsimp only
    rw [if_pos (by rw [gl]; omega), gl, hcnt]
  have hlen : gLen S [.lst ((givs ps).map D.str)] = some (.int (ps.length : Int)) := by
    show some (D.int (((givs ps).map D.str).length : Int)) = _
    rw [List.length_map, gl]
  have hsort : gSorted S [.lst ((taks ps).map D.str)] = some (.lst ((givs ps).map D.str)) := by
    have := sorted_strs S (.lst ((taks ps).map D.str)) (taks ps) rfl (by omega)
    rw [hsrt] at this
    exact this
  have oks : ∀ y ∈ givs ps, PyData.strOk y = true := fun y hy => by
    obtain ⟨p, hp, rfl⟩ := List.mem_map.mp hy
    exact nm_ok (hn p hp).1
  have heq : gEq S (.lst ((givs ps).map D.str)) (.lst ((givs ps).map D.str)) = some (.bl true) := by
    have := eq_strs (S := S) oks oks
    rw [decide_eq_true rfl] at this
    exact this
  have hp' : tTru (lCall 1 gp [] (aCons (lVar 0) aNil)) [some (.tup (psD ps)), none, none, none] S = .ok true S := tru_b (call_ok (acons_ok rfl rfl) rfl hp) rfl
  have ht : tTru (lBin gNe (lCallB gLenSet (aCons (lVar 1) aNil)) (lCallB gLen (aCons (lVar 1) aNil))) [some (.tup (psD ps)), some (.lst ((givs ps).map D.str)), none, none] S = .ok false S :=
    tru_b (bin_ok (callb_ok (acons_ok rfl rfl) hset) (callb_ok (acons_ok rfl rfl) hlen) ne_ii) (by rw [decide_eq_true rfl]; rfl)
  exact body_rt (seq_nx (if_ff (not_ok hp') rfl) (seq_nx (set_ok (g1 _)) (seq_nx (if_ff ht rfl) (ret_ok (bin_ok (callb_ok (acons_ok (g2 _) rfl) hsort) rfl heq)))))
theorem ok_init (T : T10 K mg) : ∃ g, FnL P w K mg base 5 T.f_Drawing___init__ T.fd_Drawing___init__ ["self", "pairs"] g ∧ ∀ ds S, RLe S (drF T.C_Drawing ds S) (mkF T.C_Drawing g ds S) := by
  obtain ⟨gd, Fn_are_drawn, Sd⟩ := ok_drawnF (P := P) (w := w) (base := base) T
  refine ⟨_, Fun.okL T.F_Drawing___init__ sc_Drawing___init__ fun cdv A outer s H E hr =>
(pssl_cons (psl_if (ptl_not (ptl_truth (pel_call Fn_are_drawn (hr.mono (by decide)) rfl T.mg_are_drawn T.F_are_drawn.kp T.b_are_drawn dfl_nil (pal_cons (pel_var (i := 1)) pal_nil)))) (pssl_one psl_bad) pssl_nil)
  (pssl_one (psl_fld T.cl_Drawing T.na_Drawing_pairs (pel_var (i := 0)) (pel_var (i := 1))))), fun ds S => ?_⟩
  unfold drF
  split
  · rename_i xs
    split
    · rename_i h
      obtain ⟨ps, rfl, hg⟩ := h
      have e := Sd (S ++ [.ins T.C_Drawing []]) ps hg
      have ht : tTru (lCall 1 gd [] (aCons (lVar 1) aNil)) [some (.ref S.length), some (.tup (psD ps))] (S ++ [.ins T.C_Drawing []]) = .ok true (S ++ [.ins T.C_Drawing []]) := tru_b (call_ok (acons_ok rfl rfl) rfl e) rfl
      unfold mkF
      rw [body_nx (ds := [.ref S.length, .tup (psD ps)]) (seq_nx (if_ff (not_ok ht) rfl) (stF_ok rfl rfl (st_new (fs := []) (by decide)))), bind_ok]
      refine .gc _ _ _ (by simp) fz_dr ?_
      show (belows S.length (psD ps) && true) = true
      rw [below_ps]
      rfl
    · exact .bad _
  · exact .bad _
theorem ok_taker (T : T10 K mg) : ∃ g, FnL P w K mg base 1 T.f_Drawing_taker_of T.fd_Drawing_taker_of ["self", "name"] g ∧ SSeek T.C_Drawing (·.1) (·.2) g := by
  refine ⟨_, Fun.okL T.F_Drawing_taker_of sc_Drawing_taker_of fun cdv A outer s H E hr =>
(pssl_cons (psl_for (passes_of rfl) rfl (pil_val (pel_fld T.cl_Drawing T.na_Drawing_pairs (pel_var (i := 0)))) (pgl_tup (n := 2) rfl (pgsl_cons (pgl_name (i := 2) sc_Drawing_taker_of.nd) (pgsl_cons (pgl_name (i := 3) sc_Drawing_taker_of.nd) pgsl_nil))) (pssl_one (psl_if (ptl_cmp (opl_eq hr.units) (pel_var (i := 2)) (pel_var (i := 1))) (pssl_one (psl_ret (pel_var (i := 3)))) pssl_nil)))
  (pssl_one psl_bad)), ?_⟩
  intro S ps p hg hm hn
  refine body_rt (seq_rt (for_ok (iter_ok (fld_dr rfl) rfl) (seek_run (f := (·.1)) (v := (·.2)) (a := p.1) (fun q => ⟨[some (drD T.C_Drawing ps), some (.str p.1), some (.str q.1), some (.str q.2)], [some (drD T.C_Drawing ps), some (.str p.1), some (.str q.1), some (.str q.2)], rfl, fun h => ?_, fun h => ?_, rfl⟩) ps p hm hn rfl)))
  · have ht : tTru (lBin gEq (lVar 2) (lVar 1)) [some (drD T.C_Drawing ps), some (.str p.1), some (.str q.1), some (.str q.2)] S = .ok true S := tru_b (bin_ok rfl rfl eq_ss) (decide_eq_true h)
    exact if_tt ht (ret_ok rfl)
  · have ht : tTru (lBin gEq (lVar 2) (lVar 1)) [some (drD T.C_Drawing ps), some (.str p.1), some (.str q.1), some (.str q.2)] S = .ok false S := tru_b (bin_ok rfl rfl eq_ss) (decide_eq_false h)
    exact if_ff ht rfl
theorem ok_giver (T : T10 K mg) : ∃ g, FnL P w K mg base 1 T.f_Drawing_giver_of T.fd_Drawing_giver_of ["self", "name"] g ∧ SSeek T.C_Drawing (·.2) (·.1) g := by
  refine ⟨_, Fun.okL T.F_Drawing_giver_of sc_Drawing_giver_of fun cdv A outer s H E hr =>
(pssl_cons (psl_for (passes_of rfl) rfl (pil_val (pel_fld T.cl_Drawing T.na_Drawing_pairs (pel_var (i := 0)))) (pgl_tup (n := 2) rfl (pgsl_cons (pgl_name (i := 2) sc_Drawing_giver_of.nd) (pgsl_cons (pgl_name (i := 3) sc_Drawing_giver_of.nd) pgsl_nil))) (pssl_one (psl_if (ptl_cmp (opl_eq hr.units) (pel_var (i := 3)) (pel_var (i := 1))) (pssl_one (psl_ret (pel_var (i := 2)))) pssl_nil)))
  (pssl_one psl_bad)), ?_⟩
  intro S ps p hg hm hn
  refine body_rt (seq_rt (for_ok (iter_ok (fld_dr rfl) rfl) (seek_run (f := (·.2)) (v := (·.1)) (a := p.2) (fun q => ⟨[some (drD T.C_Drawing ps), some (.str p.2), some (.str q.1), some (.str q.2)], [some (drD T.C_Drawing ps), some (.str p.2), some (.str q.1), some (.str q.2)], rfl, fun h => ?_, fun h => ?_, rfl⟩) ps p hm hn rfl)))
  · have ht : tTru (lBin gEq (lVar 3) (lVar 1)) [some (drD T.C_Drawing ps), some (.str p.2), some (.str q.1), some (.str q.2)] S = .ok true S := tru_b (bin_ok rfl rfl eq_ss) (decide_eq_true h)
    exact if_tt ht (ret_ok rfl)
  · have ht : tTru (lBin gEq (lVar 3) (lVar 1)) [some (drD T.C_Drawing ps), some (.str p.2), some (.str q.1), some (.str q.2)] S = .ok false S := tru_b (bin_ok rfl rfl eq_ss) (decide_eq_false h)
    exact if_ff ht rfl
end
end K10

namespace K10
open PySem PySem.Spec PyProof.Rows L2 MP TL
open K06 (riP Cd cd_of cd_repr)
open K59 (Pr nm givs taks slt isL lets nm_ok sle sorted_strs cnt_nodup slt_trans slt_irrefl)
theorem kof_str (a : Str) : kOf false (.str a) = some [.inr a] := rfl
def kv2 (ps : List Pr) : List (D × D) := ps.map fun p => (D.str p.1, D.str p.2)
theorem kvs_ps : ∀ ps : List Pr, kvsOf (psD ps) = some (kv2 ps)
  | [] => rfl
  | p :: ps => by
    show (kv1 (pD p)).bind _ = _
    have e : kv1 (pD p) = some (.str p.1, .str p.2) := rfl
    have ih := kvs_ps ps
    unfold psD at ih
    rw [e]
    show (kvsOf (List.map pD ps)).map _ = _
    rw [ih]
    rfl
theorem keys_ps : ∀ ps : List Pr, keysK (kv2 ps) = (givs ps).map Sum.inr
  | [] => rfl
  | p :: ps => by
    have ih := keys_ps ps
    unfold keysK kv2 at ih ⊢
    rw [List.map_cons, List.filterMap_cons_some (f := fun q : D × D => keyOf q.1) (a := (D.str p.1, D.str p.2)) (b := Sum.inr p.1) rfl, ih]
    rfl
theorem look_kv2 : ∀ {ps : List Pr} {p : Pr}, p ∈ ps → (givs ps).Nodup → lookD false (kv2 ps) [.inr p.1] = some (.str p.2)
  | q :: ps, p, hm, hn => by
    have hn' : q.1 ∉ givs ps ∧ (givs ps).Nodup := List.nodup_cons.mp hn
    show (if kOf false (.str q.1) = some [.inr p.1] then some (D.str q.2) else lookD false (kv2 ps) [.inr p.1]) = _
    rcases List.mem_cons.mp hm with h | h
    · rw [h, if_pos (kof_str q.1)]
    · rw [if_neg (fun z => by
        rw [kof_str] at z
        injection z with z
        injection z with z _
        injection z with z
        exact hn'.1 (by rw [z]; exact List.mem_map_of_mem (f := fun p : Pr => p.1) h)), look_kv2 h hn'.2]
def barK (bs : List Pr) : List (D × D) := bs.map fun p => (pD p, D.bl true)
theorem look_bar (bs : List Pr) (a b : Str) : (lookD true (barK bs) [.inr a, .inr b]).isSome = decide ((a, b) ∈ bs) := by
  induction bs with
  | nil => rfl
  | cons p bs ih =>
    show (if kOf true (pD p) = some [.inr a, .inr b] then some (D.bl true) else lookD true (barK bs) [.inr a, .inr b]).isSome = _
    have e : kOf true (pD p) = some [.inr p.1, .inr p.2] := rfl
    rw [e]
    by_cases h : p = (a, b)
    · subst h
      rw [if_pos rfl]
      simp
    · rw [if_neg (fun z => h (by
        injection z with z
        injection z with z1 z2
        injection z2 with z2 _
        injection z1 with z1
        injection z2 with z2
        exact Prod.ext z1 z2)), ih]
      simp [Ne.symm h]
theorem below_kv2 {n : Nat} : ∀ ps : List Pr, belowd n (kv2 ps) = true
  | [] => rfl
  | p :: ps => by
    show (true && belowd n (kv2 ps)) = true
    rw [below_kv2 ps]
    rfl
theorem below_bar {n : Nat} : ∀ ps : List Pr, belowd n (barK ps) = true
  | [] => rfl
  | p :: ps => by
    show (true && belowd n (barK ps)) = true
    rw [below_bar ps]
    rfl
theorem fld_new {C : Addr} {f : Str} {S : Sto} {fs : List (Str × D)} {d : D} {ρ : Ev} (h0 : ρ[0]? = some (some (D.ref S.length))) (h : fs.lookup f = some d) : lFld C f (lVar 0) ρ (S ++ [.ins C fs]) = .ok d (S ++ [.ins C fs]) := fld_ok (by unfold lVar; rw [h0]) (by
  unfold gFld
  have e : vw (S ++ [O.ins C fs]) (.ref S.length) = .obj C fs := by unfold vw; dsimp only; rw [show (S ++ [O.ins C fs])[S.length]? = some (.ins C fs) by simp]
  rw [e]
  dsimp only
  rw [if_pos rfl]
  exact h)
theorem kvsT_bar : ∀ bs : List Pr, kvsOfT (bs.map fun p => D.tup [pD p, .bl true]) = some (barK bs)
  | [] => rfl
  | p :: bs => by
    show (kv1T (.tup [pD p, .bl true])).bind (fun q => (kvsOfT (bs.map fun p => D.tup [pD p, .bl true])).map fun r => q :: r) = _
    rw [kvsT_bar bs]
    rfl
theorem keysT_bar : ∀ bs : List Pr, keysT (barK bs) = bs.map fun p => [Sum.inr p.1, Sum.inr p.2]
  | [] => rfl
  | p :: bs => by
    have ih := keysT_bar bs
    unfold keysT barK at ih ⊢
    rw [List.map_cons, List.filterMap_cons_some (f := fun q : D × D => kOf true q.1) (a := (pD p, D.bl true)) (b := [Sum.inr p.1, Sum.inr p.2]) rfl, ih]
    rfl
theorem dictT_ok {S : Sto} {bs : List Pr} (hn : bs.Nodup) (hl : bs.length ≤ 1000) : gDictT S [.lst (bs.map fun p => D.tup [pD p, .bl true])] = some (.dct true (barK bs)) := by
  show (kvsOfT (bs.map fun p => D.tup [pD p, .bl true])).bind _ = _
  rw [kvsT_bar]
  show (if (keysT (barK bs)).Nodup ∧ (barK bs).length ≤ 100000 then some (D.dct true (barK bs)) else none) = _
  refine if_pos ⟨?_, ?_⟩
  · rw [keysT_bar]
    unfold List.Nodup
    rw [List.pairwise_map]
    exact hn.imp fun {a b} q z => q (by
      injection z with z1 z2
      injection z2 with z2 _
      injection z1 with z1
      injection z2 with z2
      exact Prod.ext z1 z2)
  · unfold barK
    rw [List.length_map]
    omega
theorem dictH_ok {S : Sto} {ms : List Pr} (hn : (givs ms).Nodup) (hl : ms.length ≤ 1000) : gDictK S [.ftup (psD ms)] = some (.dct false (kv2 ms)) := by
  show (kvsOf (psD ms)).bind _ = _
  rw [kvs_ps]
  show (if (keysK (kv2 ms)).Nodup ∧ (kv2 ms).length ≤ 100000 then some (D.dct false (kv2 ms)) else none) = _
  refine if_pos ⟨?_, ?_⟩
  · rw [keys_ps]
    unfold List.Nodup
    rw [List.pairwise_map]
    exact hn.imp fun {a b} q z => q (by injection z)
  · unfold kv2
    rw [List.length_map]
    omega
theorem kv2_keys (ms : List Pr) : (kv2 ms).map (·.1) = (givs ms).map D.str := by
  unfold kv2 givs
  rw [List.map_map, List.map_map]
  rfl
theorem fz_c2 {C : Addr} {S : Sto} {fs : List (Str × D)} {g : List (D × D)} {d : D} (h : D.obj C (fs.map fun q => (q.1, fz0 (S ++ [.ins C fs] ++ [.dct true g]) S.length q.2)) = d) : d = fz (S ++ [.ins C fs] ++ [.dct true g]) S.length (.ref S.length) := by
  have e : (S ++ [O.ins C fs] ++ [.dct true g])[S.length]? = some (.ins C fs) := by simp
  have e0 : fz0 (S ++ [O.ins C fs] ++ [.dct true g]) S.length (.ref S.length) = .obj C fs := by
    unfold fz0
    dsimp only
    rw [if_neg (Nat.lt_irrefl _)]
    unfold vw
    dsimp only
    rw [e]
  unfold fz
  rw [e0]
  exact h.symm
theorem fz0_2 {C : Addr} {S : Sto} {fs : List (Str × D)} {g : List (D × D)} : fz0 (S ++ [.ins C fs] ++ [.dct true g]) S.length (.ref (S.length + 1)) = .dct true g := by
  have e : (S ++ [O.ins C fs] ++ [.dct true g])[S.length + 1]? = some (O.dct true g) := by
    rw [List.getElem?_append_right (by simp)]
    simp
  unfold fz0
  dsimp only
  rw [if_neg (by omega)]
  unfold vw
  dsimp only
  rw [e]
theorem st_new2 {C : Addr} {f : Str} {S : Sto} {fs : List (Str × D)} {g : List (D × D)} {d : D} (h : fs.length < 1000) : stFld C f (S ++ [.ins C fs] ++ [.dct true g]) (.ref S.length) d = some (S ++ [.ins C (putD f d fs)] ++ [.dct true g]) := by
  have e : (S ++ [O.ins C fs] ++ [.dct true g])[S.length]? = some (.ins C fs) := by simp
  have e2 : (S ++ [O.ins C fs] ++ [O.dct true g]).set S.length (.ins C (putD f d fs)) = S ++ [O.ins C (putD f d fs)] ++ [O.dct true g] := by simp
  unfold stFld
  dsimp only
  rw [e]
  dsimp only
  rw [if_pos ⟨rfl, h⟩, e2]
theorem fld_new2 {C : Addr} {f : Str} {S : Sto} {fs : List (Str × D)} {g : List (D × D)} {d : D} {ρ : Ev} (h0 : ρ[0]? = some (some (D.ref S.length))) (h : fs.lookup f = some d) : lFld C f (lVar 0) ρ (S ++ [.ins C fs] ++ [.dct true g]) = .ok d (S ++ [.ins C fs] ++ [.dct true g]) := fld_ok (by unfold lVar; rw [h0]) (by
  unfold gFld
  have e : vw (S ++ [O.ins C fs] ++ [.dct true g]) (.ref S.length) = .obj C fs := by unfold vw; dsimp only; rw [show (S ++ [O.ins C fs] ++ [O.dct true g])[S.length]? = some (.ins C fs) by simp]
  rw [e]
  dsimp only
  rw [if_pos rfl]
  exact h)
theorem upd_2 {C : Addr} {S : Sto} {fs : List (Str × D)} {m : List (D × D)} (hl : m.length ≤ 1) : stUpd1 (S ++ [.ins C fs] ++ [.dct true []]) (.ref (S.length + 1)) [.dct true m] = some (.non, S ++ [.ins C fs] ++ [.dct true m]) := by
  have e : (S ++ [O.ins C fs] ++ [.dct true []])[S.length + 1]? = some (O.dct true []) := by
    rw [List.getElem?_append_right (by simp)]
    simp
  have e2 : (S ++ [O.ins C fs] ++ [O.dct true []]).set (S.length + 1) (.dct true m) = S ++ [O.ins C fs] ++ [O.dct true m] := by
    rw [List.set_append_right _ _ (by simp)]
    simp
  unfold stUpd1
  dsimp only
  rw [e]
  dsimp only
  rw [if_pos hl, e2]
theorem rle_bind {S S' : Sto} {a r : R D} {d : D} {f : D → Sto → R D} (h : r = .ok d S') (h2 : RLe S a (f d S')) : RLe S a (r.bind f) := by rw [h, bind_ok]; exact h2
theorem ty_2 {C : Addr} {S : Sto} {fs : List (Str × D)} {g : List (D × D)} : isTy "dict" (S ++ [.ins C fs] ++ [.dct true g]) (.ref (S.length + 1)) = true := by
  have e : (S ++ [O.ins C fs] ++ [.dct true g])[S.length + 1]? = some (O.dct true g) := by
    rw [List.getElem?_append_right (by simp)]
    simp
  have e2 : vw (S ++ [O.ins C fs] ++ [.dct true g]) (.ref (S.length + 1)) = .dct true g := by
    unfold vw
    dsimp only
    rw [e]
  unfold isTy
  rw [e2]
  rfl
/-! ### circles: members with houses or without, bars, one year or none, of one pair -/
def pst (ys : List Pr) : D := .tup (ys.map fun p => D.tup (psD [p]))
def cr7 (ms bs ys : List Pr) : List (Str × D) := [("members", .ftup (psD ms)), ("bars", .tup (psD bs)), ("past", pst ys), ("gap", .int 1), ("houses", .dct false (kv2 ms)), ("names_told", .tup ((givs ms).map D.str)), ("barred", .dct true (barK bs))]
def crFs (ms bs ys : List Pr) : List (Str × D) := [("members", .ftup (psD ms)), ("bars", .tup (psD bs)), ("past", pst ys), ("gap", .int 1), ("houses", .dct false (kv2 ms)), ("names_told", .tup ((givs ms).map D.str)), ("barred", .dct true (barK bs)), ("gone_by", .dct true (barK ys))]
def crD (C : Addr) (ms bs ys : List Pr) : D := .obj C (crFs ms bs ys)
structure GoodC (ms bs ys : List Pr) : Prop where
  lm : ms.length ≤ 30
  nd : (givs ms).Nodup
  lb : bs.length ≤ 30
  nb : bs.Nodup
  ly : ys.length ≤ 1
  gm : ∀ p ∈ ms, gdP p
  gb : ∀ p ∈ bs, nmP p
  gy : ∀ p ∈ ys, nmP p
theorem pst_inj : ∀ {ys zs : List Pr}, pst ys = pst zs → ys = zs
  | [], [], _ => rfl
  | [], _ :: _, h => by unfold pst at h; injection h with h; cases h
  | _ :: _, [], h => by unfold pst at h; injection h with h; cases h
  | y :: ys, z :: zs, h => by
    unfold pst at h
    injection h with h
    rw [List.map_cons, List.map_cons] at h
    injection h with h1 h2
    injection h1 with h1
    have e1 : ([y] : List Pr) = [z] := psD_inj h1
    injection e1 with e1
    have e2 : ys = zs := pst_inj (by unfold pst; rw [h2])
    rw [e1, e2]
theorem below_pst {n : Nat} : ∀ ys : List Pr, below n (pst ys) = true
  | [] => rfl
  | y :: ys => by
    have ih := below_pst (n := n) ys
    unfold pst at ih ⊢
    rw [List.map_cons]
    show (belows n (psD [y]) && belows n (ys.map fun p => D.tup (psD [p]))) = true
    rw [below_ps, show belows n (ys.map fun p => D.tup (psD [p])) = true from ih]
    rfl
theorem below_cr {n : Nat} (ms bs ys : List Pr) : belowf n (crFs ms bs ys) = true := by
  show (belows n (psD ms) && (belows n (psD bs) && (below n (pst ys) && (true && (belowd n (kv2 ms) && (belows n ((givs ms).map D.str) && (belowd n (barK bs) && (belowd n (barK ys) && true)))))))) = true
  rw [below_ps, below_ps, below_pst, below_kv2, below_strs, below_bar, below_bar]
  rfl
/-- what the class takes: by its places, () and None alike -/
def Arg (ms bs ys : List Pr) (ds : List D) : Prop := ∃ b p, ds = [.ftup (psD ms), b, p, .int 1] ∧ (b = .tup (psD bs) ∨ (bs = [] ∧ b = .non)) ∧ (p = pst ys ∨ (ys = [] ∧ p = .non))
theorem Arg.uniq {ms bs ys ms' bs' ys' : List Pr} {ds : List D} (h : Arg ms bs ys ds) (h' : Arg ms' bs' ys' ds) : ms = ms' ∧ bs = bs' ∧ ys = ys' := by
  obtain ⟨b, p, rfl, hb, hp⟩ := h
  obtain ⟨b', p', e, hb', hp'⟩ := h'
  injection e with e1 e
  injection e with e2 e
  injection e with e3 _
  injection e1 with e1
  subst e2 e3
  refine ⟨psD_inj e1, ?_, ?_⟩
  · rcases hb with rfl | ⟨rfl, rfl⟩
    · rcases hb' with h | ⟨_, h⟩
      · injection h with h
        exact psD_inj h
      · cases h
    · rcases hb' with h | ⟨h, _⟩
      · cases h
      · exact h.symm
  · rcases hp with rfl | ⟨rfl, rfl⟩
    · rcases hp' with h | ⟨_, h⟩
      · exact pst_inj h
      · cases h
    · rcases hp' with h | ⟨h, _⟩
      · cases h
      · exact h.symm
open Classical in
noncomputable def crF (C : Addr) : F := fun ds S => if h : ∃ q : List Pr × List Pr × List Pr, GoodC q.1 q.2.1 q.2.2 ∧ Arg q.1 q.2.1 q.2.2 ds then .ok (crD C h.choose.1 h.choose.2.1 h.choose.2.2) S else .bad
theorem crF_of {C : Addr} {ms bs ys : List Pr} {ds : List D} {S : Sto} (hg : GoodC ms bs ys) (ha : Arg ms bs ys ds) : crF C ds S = .ok (crD C ms bs ys) S := by
  have hx : ∃ q : List Pr × List Pr × List Pr, GoodC q.1 q.2.1 q.2.2 ∧ Arg q.1 q.2.1 q.2.2 ds := ⟨(ms, bs, ys), hg, ha⟩
  unfold crF
  rw [dif_pos hx]
  have h := hx.choose_spec.2
  generalize hx.choose = q at h ⊢
  obtain ⟨e1, e2, e3⟩ := ha.uniq h
  rw [e1, e2, e3]
section
variable {P : Program} {w : World} {K : PySem.W.Frag} {mg : Str → Option Value} {base : Heap}
theorem ok_cinit (T : T10 K mg) : ∃ g, FnL P w K mg base 1 T.f_Circle___init__ T.fd_Circle___init__ psC g ∧ ∀ ds S, RLe S (crF T.C_Circle ds S) (mkF T.C_Circle g ds S) := by
  refine ⟨_, FunD.okL T.F_Circle___init__ sc_Circle___init__ fun cdv A outer s H E hr =>
(pssl_cons (psl_fld T.cl_Circle T.na_Circle_members (pel_var (i := 0)) (pel_var (i := 1)))
  (pssl_cons (psl_fld T.cl_Circle T.na_Circle_bars (pel_var (i := 0)) (pel_or (pel_var (i := 2)) (pel_one (pel_tup pal_nil))))
  (pssl_cons (psl_fld T.cl_Circle T.na_Circle_past (pel_var (i := 0)) (pel_or (pel_var (i := 3)) (pel_one (pel_tup pal_nil))))
  (pssl_cons (psl_fld T.cl_Circle T.na_Circle_gap (pel_var (i := 0)) (pel_var (i := 4)))
  (pssl_cons (psl_fld T.cl_Circle T.na_Circle_houses (pel_var (i := 0)) (pel_callTy (cl_dictK rfl) rfl T.n_dict (by decide +kernel) (pal_cons (pel_fld T.cl_Circle T.na_Circle_members (pel_var (i := 0))) pal_nil)))
  (pssl_cons (psl_fld T.cl_Circle T.na_Circle_names_told (pel_var (i := 0)) (pel_callTy (cl_tupD rfl) rfl T.n_tuple (by decide +kernel) (pal_cons (pel_fld T.cl_Circle T.na_Circle_houses (pel_var (i := 0))) pal_nil)))
  (pssl_cons (psl_fld T.cl_Circle T.na_Circle_barred (pel_var (i := 0)) (pel_callTy (cl_dictT rfl hr.units) rfl T.n_dict (by decide +kernel) (pal_cons (pel_lc (own := [("pair", 5)]) rfl sc_Circle___init__.nd (pil_val (pel_fld T.cl_Circle T.na_Circle_bars (pel_var (i := 0)))) (blkOk_by (N := N_Circle___init__) (sc := defScope s_Circle___init__) (by decide +kernel)) (fun _ _ _ _ _ => (pgl_name (i := 5) sc_Circle___init__.nd)) (fun _ _ _ _ _ => ptsl_nil) (fun _ _ _ _ _ => (pel_tup (pal_cons (pel_var (i := 5)) (pal_cons pel_bl pal_nil))))) pal_nil)))
  (pssl_cons (psl_fld T.cl_Circle T.na_Circle_gone_by (pel_var (i := 0)) pel_dctNT)
  (pssl_one (psl_for (passes_of rfl) rfl (pil_val (pel_slice sll_any (pel_fld T.cl_Circle T.na_Circle_past (pel_var (i := 0))) (pol_some (pel_callB (cl_max2 rfl) rfl T.n_max (by decide +kernel) (pal_cons pel_int (pal_cons (pel_op opl_sub (pel_callB (cl_len) rfl T.n_len (by decide +kernel) (pal_cons (pel_fld T.cl_Circle T.na_Circle_past (pel_var (i := 0))) pal_nil)) (pel_fld T.cl_Circle T.na_Circle_gap (pel_var (i := 0)))) pal_nil)))) pol_none)) (pgl_name (i := 6) sc_Circle___init__.nd) (pssl_one (psl_expr (pel_bm PySem.F.plainAttrs_dict PySem.F.slot_dict_update dict_update_ty (mtl_upd1 hr.units) (pel_fld T.cl_Circle T.na_Circle_gone_by (pel_var (i := 0))) (pal_cons (pel_callTy (cl_dictT rfl hr.units) rfl T.n_dict (by decide +kernel) (pal_cons (pel_lc (own := [("pair", 5)]) rfl sc_Circle___init__.nd (pil_val (pel_var (i := 6))) (blkOk_by (N := N_Circle___init__) (sc := defScope s_Circle___init__) (by decide +kernel)) (fun _ _ _ _ _ => (pgl_name (i := 5) sc_Circle___init__.nd)) (fun _ _ _ _ _ => ptsl_nil) (fun _ _ _ _ _ => (pel_tup (pal_cons (pel_var (i := 5)) (pal_cons pel_bl pal_nil))))) pal_nil)) pal_nil)))))))))))))), fun ds S => ?_⟩
  unfold crF
  split
  · rename_i h
    have hs := h.choose_spec
    generalize h.choose = q at hs ⊢
    obtain ⟨ms, bs, ys⟩ := q
    obtain ⟨hg, b, p, rfl, hb, hp⟩ := hs
    dsimp only at hg hb hp ⊢
    have st : ∀ (f : Str) (d : D) (fs : List (Str × D)) (le : LE) (ρ : Ev), ρ[0]? = some (some (D.ref S.length)) → fs.length < 100 → le ρ (S ++ [.ins T.C_Circle fs]) = .ok d (S ++ [.ins T.C_Circle fs]) → lStF T.C_Circle f (lVar 0) le ρ (S ++ [.ins T.C_Circle fs]) = .ok (.nx ρ) (S ++ [.ins T.C_Circle (putD f d fs)]) := fun f d fs le ρ h0 hl h => stF_ok h (by unfold lVar; rw [h0]) (st_new (by omega))
    have st2 : ∀ (fs : List (Str × D)) (ρ : Ev), ρ[0]? = some (some (D.ref S.length)) → fs.length < 100 → lStF T.C_Circle "gone_by" (lVar 0) (lDctN true) ρ (S ++ [.ins T.C_Circle fs]) = .ok (.nx ρ) (S ++ [.ins T.C_Circle (putD "gone_by" (.ref (S.length + 1)) fs)] ++ [.dct true []]) := fun fs ρ h0 hl => by
      have e : lDctN true ρ (S ++ [.ins T.C_Circle fs]) = .ok (.ref (S.length + 1)) (S ++ [.ins T.C_Circle fs] ++ [.dct true []]) := by
        unfold lDctN
        rw [List.length_append, List.length_singleton]
      exact stF_ok e (by unfold lVar; rw [h0]) (st_new2 (by omega))
    have hbE : ∀ S', lOrV (lVar 2) (lTup aNil) [some (.ref S.length), some (.ftup (psD ms)), some b, some p, some (.int 1), none, none] S' = .ok (.tup (psD bs)) S' := fun S' => by
      rcases hb with rfl | ⟨rfl, rfl⟩
      · cases bs with
        | nil => exact orv_ff (d := .tup []) rfl rfl rfl
        | cons p bs => exact orv_tt rfl rfl
      · exact orv_ff (d := .non) rfl rfl rfl
    have hpE : ∀ S', lOrV (lVar 3) (lTup aNil) [some (.ref S.length), some (.ftup (psD ms)), some b, some p, some (.int 1), none, none] S' = .ok (pst ys) S' := fun S' => by
      rcases hp with rfl | ⟨rfl, rfl⟩
      · cases ys with
        | nil => exact orv_ff (d := .tup []) rfl rfl rfl
        | cons p bs => exact orv_tt rfl rfl
      · exact orv_ff (d := .non) rfl rfl rfl
    have lm := hg.lm
    have lb := hg.lb
    have seven : ∀ (l : LS) (r : R Fl), l [some (.ref S.length), some (.ftup (psD ms)), some b, some p, some (.int 1), none, none] (S ++ [.ins T.C_Circle (cr7 ms bs ys)]) = r → lSeq (lStF T.C_Circle "members" (lVar 0) (lVar 1)) (lSeq (lStF T.C_Circle "bars" (lVar 0) (lOrV (lVar 2) (lTup aNil))) (lSeq (lStF T.C_Circle "past" (lVar 0) (lOrV (lVar 3) (lTup aNil))) (lSeq (lStF T.C_Circle "gap" (lVar 0) (lVar 4)) (lSeq (lStF T.C_Circle "houses" (lVar 0) (lCallB gDictK (aCons (lFld T.C_Circle "members" (lVar 0)) aNil)))
          (lSeq (lStF T.C_Circle "names_told" (lVar 0) (lCallB gTupD (aCons (lFld T.C_Circle "houses" (lVar 0)) aNil))) (lSeq (lStF T.C_Circle "barred" (lVar 0) (lCallB gDictT (aCons (lComp (lIter (lFld T.C_Circle "bars" (lVar 0))) [5] (gtName 5) tYesL (lTup (aCons (lVar 5) (aCons (lC (.bl true)) aNil)))) aNil))) l))))))
          [some (.ref S.length), some (.ftup (psD ms)), some b, some p, some (.int 1), none, none] (S ++ [.ins T.C_Circle []]) = r := by
      intro l r hl
      exact seq_nx (st "members" (.ftup (psD ms)) [] _ _ rfl (Nat.le_of_ble_eq_true rfl) rfl)
        (seq_nx (st "bars" (.tup (psD bs)) _ _ _ rfl (Nat.le_of_ble_eq_true rfl) (hbE _))
        (seq_nx (st "past" (pst ys) _ _ _ rfl (Nat.le_of_ble_eq_true rfl) (hpE _))
        (seq_nx (st "gap" (.int 1) _ _ _ rfl (Nat.le_of_ble_eq_true rfl) rfl)
        (seq_nx (st "houses" (.dct false (kv2 ms)) _ _ _ rfl (Nat.le_of_ble_eq_true rfl) (callb_ok (acons_ok (fld_new rfl rfl) rfl) (dictH_ok hg.nd (by omega))))
        (seq_nx (st "names_told" (.tup ((givs ms).map D.str)) _ _ _ rfl (Nat.le_of_ble_eq_true rfl) (callb_ok (acons_ok (fld_new rfl rfl) rfl) (show some (D.tup ((kv2 ms).map (·.1))) = _ by rw [kv2_keys])))
        (seq_nx (st "barred" (.dct true (barK bs)) _ _ _ rfl (Nat.le_of_ble_eq_true rfl) (callb_ok (acons_ok (comp_okL (iter_ok (fld_new rfl rfl) rfl) (by rw [psD_len]; omega) (comp_map (enc := pD) (f := fun p => D.tup [pD p, .bl true]) trivial bs fun p hp => ⟨_, rfl, tup_ok (acons_ok rfl (acons_ok rfl rfl)) (by simp)⟩)) rfl) (dictT_ok hg.nb (by omega)))) hl))))))
    have f6 : ∀ (y : Pr) (S' : Sto), lCallB gDictT (aCons (lComp (lIter (lVar 6)) [5] (gtName 5) tYesL (lTup (aCons (lVar 5) (aCons (lC (.bl true)) aNil)))) aNil) [some (.ref S.length), some (.ftup (psD ms)), some b, some p, some (.int 1), none, some (.tup (psD [y]))] S' = .ok (.dct true (barK [y])) S' := fun y S' => callb_ok (acons_ok (comp_okL (iter_ok rfl rfl) (by simp [psD]) (comp_map (enc := pD) (f := fun p => D.tup [pD p, .bl true]) trivial [y] fun p hp => ⟨_, rfl, tup_ok (acons_ok rfl (acons_ok rfl rfl)) (by simp)⟩)) rfl) (dictT_ok (bs := [y]) (List.nodup_cons.mpr ⟨List.not_mem_nil, .nil⟩) (by simp))
    unfold mkF
    cases ys with
    | nil =>
      refine rle_bind (body_nx (ds := [.ref S.length, .ftup (psD ms), b, p, .int 1]) (S' := S ++ [O.ins T.C_Circle (putD "gone_by" (.ref (S.length + 1)) (cr7 ms bs []))] ++ [.dct true []])
        (seven _ _ (seq_nx (st2 _ _ rfl (Nat.le_of_ble_eq_true rfl))
          (for_ok (iter_ok (slice_ok (fld_new2 rfl rfl) (osome_ok (callb_ok (acons_ok rfl (acons_ok (bin_ok (callb_ok (acons_ok (fld_new2 rfl rfl) rfl) rfl) (fld_new2 rfl rfl) rfl) rfl)) rfl)) rfl rfl) rfl) (for_end trivial))))) ?_
      refine .gc _ _ _ (by simp) (fz_c2 ?_) (below_cr ms bs [])
      show D.obj T.C_Circle [("members", .ftup (psD ms)), ("bars", .tup (psD bs)), ("past", pst []), ("gap", .int 1), ("houses", .dct false (kv2 ms)), ("names_told", .tup ((givs ms).map D.str)), ("barred", .dct true (barK bs)), ("gone_by", fz0 _ S.length (.ref (S.length + 1)))] = _
      rw [fz0_2]
      rfl
    | cons y ys =>
      have e : ys = [] := by
        have := hg.ly
        rw [List.length_cons] at this
        exact List.length_eq_zero_iff.mp (by omega)
      subst e
      refine rle_bind (body_nx (ds := [.ref S.length, .ftup (psD ms), b, p, .int 1]) (S' := S ++ [O.ins T.C_Circle (putD "gone_by" (.ref (S.length + 1)) (cr7 ms bs [y]))] ++ [.dct true (barK [y])])
        (seven _ _ (seq_nx (st2 _ _ rfl (Nat.le_of_ble_eq_true rfl))
          (for_ok (iter_ok (slice_ok (fld_new2 rfl rfl) (osome_ok (callb_ok (acons_ok rfl (acons_ok (bin_ok (callb_ok (acons_ok (fld_new2 rfl rfl) rfl) rfl) (fld_new2 rfl rfl) rfl) rfl)) rfl)) rfl rfl) rfl)
            (for_go trivial rfl (expr_ok (d := .non) (bm_ok (d := .ref (S.length + 1)) (fld_new2 rfl rfl) ty_2 (acons_ok (f6 y _) rfl) (upd_2 (by simp [barK])))) (for_end trivial)))))) ?_
      refine .gc _ _ _ (by simp) (fz_c2 ?_) (below_cr ms bs [y])
      show D.obj T.C_Circle [("members", .ftup (psD ms)), ("bars", .tup (psD bs)), ("past", pst [y]), ("gap", .int 1), ("houses", .dct false (kv2 ms)), ("names_told", .tup ((givs ms).map D.str)), ("barred", .dct true (barK bs)), ("gone_by", fz0 _ S.length (.ref (S.length + 1)))] = _
      rw [fz0_2]
      rfl
  · exact .bad _
end
end K10

namespace K10
open PySem PySem.Spec PyProof.Rows L2 MP TL
open K06 (riP Cd cd_of cd_repr)
open K59 (Pr nm givs taks slt isL lets nm_ok sle sorted_strs cnt_nodup slt_trans slt_irrefl)
/-! ### what a circle tells -/
theorem recv_cr {C : Addr} {S : Sto} {ms bs ys : List Pr} {mn : Str} (h : ((crFs [] [] []).map (·.1)).contains mn = false) : recv C mn S (crD C ms bs ys) = true := by
  show (decide (C = C) && ((crFs ms bs ys).lookup mn).isNone) = true
  rw [decide_eq_true rfl]
  have e : ∀ fs : List (Str × D), (fs.map (·.1)).contains mn = false → fs.lookup mn = none := by
    intro fs
    induction fs with
    | nil => intro _; rfl
    | cons p fs ih =>
      intro h
      obtain ⟨a, b⟩ := p
      rw [List.map_cons, List.contains_cons, Bool.or_eq_false_iff] at h
      rw [List.lookup_cons, h.1]
      exact ih h.2
  rw [e (crFs ms bs ys) h]
  rfl
theorem fld_cr {C : Addr} {S : Sto} {ρ : Ev} {i : Nat} {f : Str} {ms bs ys : List Pr} {d : D} (h : ρ[i]? = some (some (crD C ms bs ys))) (hf : (crFs ms bs ys).lookup f = some d) : lFld C f (lVar i) ρ S = .ok d S := fld_ok (d := crD C ms bs ys) (by unfold lVar; rw [h]) (by
  show (if C = C then (crFs ms bs ys).lookup f else none) = _
  rw [if_pos rfl]
  exact hf)
def rsn (bs ys : List Pr) (p q : Pr) : D := if p.1 = q.1 then .str "self" else if p.2 ≠ "" ∧ p.2 = q.2 then .str "house" else if (p.1, q.1) ∈ bs then .str "bar" else if (p.1, q.1) ∈ ys then .str "past" else .non
def SCNames (C : Addr) (g : F) : Prop := ∀ (S : Sto) (ms bs ys : List Pr), g [crD C ms bs ys] S = .ok (.tup ((givs ms).map D.str)) S
def SHouse (C : Addr) (g : F) : Prop := ∀ (S : Sto) (ms bs ys : List Pr) (p : Pr), (givs ms).Nodup → p ∈ ms → g [crD C ms bs ys, .str p.1] S = .ok (.str p.2) S
def SReason (C : Addr) (g : F) : Prop := ∀ (S : Sto) (ms bs ys : List Pr) (p q : Pr), (givs ms).Nodup → p ∈ ms → q ∈ ms → g [crD C ms bs ys, .str p.1, .str q.1] S = .ok (rsn bs ys p q) S
def STakers (C : Addr) (g : F) : Prop := ∀ (S : Sto) (ms bs ys : List Pr) (p : Pr), (givs ms).Nodup → ms.length ≤ 30 → p ∈ ms → g [crD C ms bs ys, .str p.1] S = .ok (.tup ((ms.filter fun q => isNonD (rsn bs ys p q)).map fun q => D.str q.1)) S
def SGivers (C : Addr) (g : F) : Prop := ∀ (S : Sto) (ms bs ys : List Pr) (p : Pr), (givs ms).Nodup → ms.length ≤ 30 → p ∈ ms → g [crD C ms bs ys, .str p.1] S = .ok (.tup ((ms.filter fun q => isNonD (rsn bs ys q p)).map fun q => D.str q.1)) S
theorem givs_str (ms : List Pr) : (givs ms).map D.str = ms.map fun q => D.str q.1 := by
  unfold givs
  rw [List.map_map]
  rfl
section
variable {P : Program} {w : World} {K : PySem.W.Frag} {mg : Str → Option Value} {base : Heap}
theorem ok_cnames (T : T10 K mg) : ∃ g, FnL P w K mg base 1 T.f_Circle_names T.fd_Circle_names ["self"] g ∧ SCNames T.C_Circle g := by
  refine ⟨_, Fun.okL T.F_Circle_names sc_Circle_names fun cdv A outer s H E hr =>
(pssl_one (psl_ret (pel_fld T.cl_Circle T.na_Circle_names_told (pel_var (i := 0))))), ?_⟩
  intro S ms bs ys
  exact body_rt (ret_ok (fld_cr rfl rfl))
theorem ok_house (T : T10 K mg) : ∃ g, FnL P w K mg base 1 T.f_Circle_house_of T.fd_Circle_house_of ["self", "name"] g ∧ SHouse T.C_Circle g := by
  refine ⟨_, Fun.okL T.F_Circle_house_of sc_Circle_house_of fun cdv A outer s H E hr =>
(pssl_cons (psl_if (PWL.pt (pwl_or (ptl_not (ptl_truth (pel_isi rfl T.n_isinstance (pel_var (i := 1)) (pe_bltn rfl T.n_str (v := .ty "str") (u := .type "str") (by decide +kernel) rfl) (.ty _) isi_strA))) (pwl_or1 (ptl_cmp (opl_dnotin hr.units) (pel_var (i := 1)) (pel_fld T.cl_Circle T.na_Circle_houses (pel_var (i := 0))))))) (pssl_one psl_bad) pssl_nil)
  (pssl_one (psl_ret (pel_ix (ixl_dct hr.units) (pel_fld T.cl_Circle T.na_Circle_houses (pel_var (i := 0))) (pel_var (i := 1)))))), ?_⟩
  intro S ms bs ys p hn hp
  have hlk : lookD false (kv2 ms) [.inr p.1] = some (.str p.2) := look_kv2 hp hn
  have h1 : gDnotin S (.str p.1) (.dct false (kv2 ms)) = some (.bl false) := by
    show some (D.bl (!(lookD false (kv2 ms) [.inr p.1]).isSome)) = _
    rw [hlk]
    rfl
  have h2 : gDix S (.dct false (kv2 ms)) (.str p.1) = some (.str p.2) := hlk
  exact body_rt (seq_nx (if_ff (or_ff (not_ok (b := true) (tru_b (isi_ok rfl rfl) rfl)) (tru_b (bin_ok rfl (fld_cr rfl rfl) h1) rfl)) rfl) (ret_ok (bin_ok (fld_cr rfl rfl) rfl h2)))
theorem ok_reason (T : T10 K mg) : ∃ g, FnL P w K mg base 2 T.f_Circle_reason T.fd_Circle_reason ["self", "giver", "taker"] g ∧ SReason T.C_Circle g := by
  obtain ⟨gh, Fn_Circle_house_of, Sh⟩ := ok_house (P := P) (w := w) (base := base) T
  refine ⟨_, Fun.okL T.F_Circle_reason sc_Circle_reason fun cdv A outer s H E hr =>
(pssl_cons (psl_par (i := 3) (j := 4) rfl sc_Circle_reason.nd (pal_cons (pel_meth T.cl_Circle T.mt_Circle_house_of Fn_Circle_house_of (hr.mono (by decide)) T.b_Circle_house_of dfl_nil (pel_var (i := 0)) (pal_cons (pel_var (i := 1)) pal_nil)) (pal_cons (pel_meth T.cl_Circle T.mt_Circle_house_of Fn_Circle_house_of (hr.mono (by decide)) T.b_Circle_house_of dfl_nil (pel_var (i := 0)) (pal_cons (pel_var (i := 2)) pal_nil)) pal_nil)))
  (pssl_cons (psl_if (ptl_cmp (opl_eq hr.units) (pel_var (i := 1)) (pel_var (i := 2))) (pssl_one (psl_ret pel_str)) pssl_nil)
  (pssl_cons (psl_if (PWL.pt (pwl_and (ptl_cmp (opl_ne hr.units) (pel_var (i := 3)) pel_str) (pwl_and1 (ptl_cmp (opl_eq hr.units) (pel_var (i := 3)) (pel_var (i := 4)))))) (pssl_one (psl_ret pel_str)) pssl_nil)
  (pssl_cons (psl_if (ptl_cmp (opl_din hr.units) (pel_tup (pal_cons (pel_var (i := 1)) (pal_cons (pel_var (i := 2)) pal_nil))) (pel_fld T.cl_Circle T.na_Circle_barred (pel_var (i := 0)))) (pssl_one (psl_ret pel_str)) pssl_nil)
  (pssl_one (psl_ret (pel_ifExp (ptl_cmp (opl_din hr.units) (pel_tup (pal_cons (pel_var (i := 1)) (pal_cons (pel_var (i := 2)) pal_nil))) (pel_fld T.cl_Circle T.na_Circle_gone_by (pel_var (i := 0)))) pel_str pel_non))))))), ?_⟩
  intro S ms bs ys p q hn hp hq
  obtain ⟨a, ha⟩ := p
  obtain ⟨b, hb⟩ := q
  have s1 := Sh S ms bs ys _ hn hp
  have s2 := Sh S ms bs ys _ hn hq
  dsimp only at s1 s2 ⊢
  have e1 : lPar 3 4 (aCons (lMeth T.C_Circle "house_of" 2 gh [] (lVar 0) (aCons (lVar 1) aNil)) (aCons (lMeth T.C_Circle "house_of" 2 gh [] (lVar 0) (aCons (lVar 2) aNil)) aNil)) [some (crD T.C_Circle ms bs ys), some (.str a), some (.str b), none, none] S = .ok (.nx [some (crD T.C_Circle ms bs ys), some (.str a), some (.str b), some (.str ha), some (.str hb)]) S :=
    par_ok (acons_ok (meth_ok (d := crD T.C_Circle ms bs ys) rfl (recv_cr (by decide)) (acons_ok rfl rfl) rfl s1) (acons_ok (meth_ok (d := crD T.C_Circle ms bs ys) rfl (recv_cr (by decide)) (acons_ok rfl rfl) rfl s2) rfl))
  have ht : ∀ zs : List Pr, gDin S (.tup [.str a, .str b]) (.dct true (barK zs)) = some (.bl (decide ((a, b) ∈ zs))) := fun zs => by
    show some (D.bl (lookD true (barK zs) [.inr a, .inr b]).isSome) = _
    rw [look_bar]
  unfold rsn
  dsimp only
  by_cases h : a = b
  · rw [if_pos h]
    exact body_rt (seq_nx e1 (seq_rt (if_tt (tru_b (bin_ok rfl rfl eq_ss) (decide_eq_true h)) (ret_ok rfl))))
  · rw [if_neg h]
    have t1 : tTru (lBin gEq (lVar 1) (lVar 2)) [some (crD T.C_Circle ms bs ys), some (.str a), some (.str b), some (.str ha), some (.str hb)] S = .ok false S := tru_b (bin_ok rfl rfl eq_ss) (decide_eq_false h)
    have u1 : tTru (lBin gNe (lVar 3) (lC (.str ""))) [some (crD T.C_Circle ms bs ys), some (.str a), some (.str b), some (.str ha), some (.str hb)] S = .ok (!decide (ha = "")) S := tru_b (bin_ok rfl rfl ne_ss) rfl
    have u2 : tTru (lBin gEq (lVar 3) (lVar 4)) [some (crD T.C_Circle ms bs ys), some (.str a), some (.str b), some (.str ha), some (.str hb)] S = .ok (decide (ha = hb)) S := tru_b (bin_ok rfl rfl eq_ss) rfl
    by_cases hh : ha ≠ "" ∧ ha = hb
    · rw [if_pos hh]
      rw [decide_eq_false hh.1] at u1
      rw [decide_eq_true hh.2] at u2
      exact body_rt (seq_nx e1 (seq_nx (if_ff t1 rfl) (seq_rt (if_tt (and_tt u1 u2) (ret_ok rfl)))))
    · rw [if_neg hh]
      have t2 : MP.tAnd (tTru (lBin gNe (lVar 3) (lC (.str "")))) (tTru (lBin gEq (lVar 3) (lVar 4))) [some (crD T.C_Circle ms bs ys), some (.str a), some (.str b), some (.str ha), some (.str hb)] S = .ok false S := by
        by_cases h0 : ha = ""
        · rw [decide_eq_true h0] at u1
          exact and_ff u1
        · rw [decide_eq_false h0] at u1
          rw [decide_eq_false (fun z => hh ⟨h0, z⟩)] at u2
          exact and_tt u1 u2
      by_cases h2 : (a, b) ∈ bs
      · rw [if_pos h2]
        exact body_rt (seq_nx e1 (seq_nx (if_ff t1 rfl) (seq_nx (if_ff t2 rfl) (seq_rt (if_tt (tru_b (bin_ok (tup_ok (acons_ok rfl (acons_ok rfl rfl)) (by simp)) (fld_cr rfl rfl) (ht bs)) (decide_eq_true h2)) (ret_ok rfl))))))
      · rw [if_neg h2]
        have tg : tTru (lBin gDin (lTup (aCons (lVar 1) (aCons (lVar 2) aNil))) (lFld T.C_Circle "gone_by" (lVar 0))) [some (crD T.C_Circle ms bs ys), some (.str a), some (.str b), some (.str ha), some (.str hb)] S = .ok (decide ((a, b) ∈ ys)) S := tru_b (bin_ok (tup_ok (acons_ok rfl (acons_ok rfl rfl)) (by simp)) (fld_cr rfl rfl) (ht ys)) rfl
        have tb : tTru (lBin gDin (lTup (aCons (lVar 1) (aCons (lVar 2) aNil))) (lFld T.C_Circle "barred" (lVar 0))) [some (crD T.C_Circle ms bs ys), some (.str a), some (.str b), some (.str ha), some (.str hb)] S = .ok false S := tru_b (bin_ok (tup_ok (acons_ok rfl (acons_ok rfl rfl)) (by simp)) (fld_cr rfl rfl) (ht bs)) (decide_eq_false h2)
        by_cases h3 : (a, b) ∈ ys
        · rw [if_pos h3]
          rw [decide_eq_true h3] at tg
          exact body_rt (seq_nx e1 (seq_nx (if_ff t1 rfl) (seq_nx (if_ff t2 rfl) (seq_nx (if_ff tb rfl) (ret_ok (ife_tt tg rfl))))))
        · rw [if_neg h3]
          rw [decide_eq_false h3] at tg
          exact body_rt (seq_nx e1 (seq_nx (if_ff t1 rfl) (seq_nx (if_ff t2 rfl) (seq_nx (if_ff tb rfl) (ret_ok (ife_ff tg rfl))))))
theorem ok_takers (T : T10 K mg) : ∃ g, FnL P w K mg base 3 T.f_Circle_takers T.fd_Circle_takers ["self", "giver"] g ∧ STakers T.C_Circle g := by
  obtain ⟨gh, Fn_Circle_house_of, Sh⟩ := ok_house (P := P) (w := w) (base := base) T
  obtain ⟨gn, Fn_Circle_names, Sn⟩ := ok_cnames (P := P) (w := w) (base := base) T
  obtain ⟨gr, Fn_Circle_reason, Sr⟩ := ok_reason (P := P) (w := w) (base := base) T
  refine ⟨_, Fun.okL T.F_Circle_takers sc_Circle_takers fun cdv A outer s H E hr =>
(pssl_cons (psl_expr (pel_meth T.cl_Circle T.mt_Circle_house_of Fn_Circle_house_of (hr.mono (by decide)) T.b_Circle_house_of dfl_nil (pel_var (i := 0)) (pal_cons (pel_var (i := 1)) pal_nil)))
  (pssl_one (psl_ret (pel_callTy (cl_tuple) rfl T.n_tuple (by decide +kernel) (pal_cons (pel_lc (own := [("name", 2)]) rfl sc_Circle_takers.nd (pil_val (pel_meth0 T.cl_Circle T.mt_Circle_names Fn_Circle_names (hr.mono (by decide)) T.b_Circle_names dfl_nil (pel_var (i := 0)))) (blkOk_by (N := N_Circle_takers) (sc := defScope s_Circle_takers) (by decide +kernel)) (fun _ _ _ _ _ => (pgl_name (i := 2) sc_Circle_takers.nd)) (fun _ _ _ _ _ => (ptsl_one (ptl_cmp opl_isN (pel_meth T.cl_Circle T.mt_Circle_reason Fn_Circle_reason (hr.mono (by decide)) T.b_Circle_reason dfl_nil (pel_var (i := 0)) (pal_cons (pel_var (i := 1)) (pal_cons (pel_var (i := 2)) pal_nil))) pel_non))) (fun _ _ _ _ _ => (pel_var (i := 2)))) pal_nil))))), ?_⟩
  intro S ms bs ys p hn hl hp
  have hc : lComp (lIter (lMeth T.C_Circle "names" 1 gn [] (lVar 0) aNil)) [2] (gtName 2) (tTru (lBin gIsN (lMeth T.C_Circle "reason" 3 gr [] (lVar 0) (aCons (lVar 1) (aCons (lVar 2) aNil))) (lC .non))) (lVar 2) [some (crD T.C_Circle ms bs ys), some (.str p.1), none] S = .ok (.lst ((ms.filter fun q => isNonD (rsn bs ys p q)).map fun q => D.str q.1)) S := by
    refine comp_okL (iter_ok (meth_ok (d := crD T.C_Circle ms bs ys) (ds := []) rfl (recv_cr (by decide)) rfl rfl (Sn S ms bs ys)) rfl) (by rw [givs_str, List.length_map]; omega) ?_
    rw [givs_str]
    exact comp_filter (enc := fun q : Pr => D.str q.1) (f := fun q : Pr => D.str q.1) (p := fun q => isNonD (rsn bs ys p q)) trivial ms fun q hq => ⟨_, rfl, tru_b (bin_ok (meth_ok (d := crD T.C_Circle ms bs ys) rfl (recv_cr (by decide)) (acons_ok rfl (acons_ok rfl rfl)) rfl (Sr S ms bs ys p q hn hp hq)) rfl rfl) rfl, fun _ => rfl⟩
  exact body_rt (seq_nx (expr_ok (meth_ok (d := crD T.C_Circle ms bs ys) rfl (recv_cr (by decide)) (acons_ok rfl rfl) rfl (Sh S ms bs ys p hn hp))) (ret_ok (callb_ok (acons_ok hc rfl) rfl)))
theorem ok_givers (T : T10 K mg) : ∃ g, FnL P w K mg base 3 T.f_Circle_givers T.fd_Circle_givers ["self", "taker"] g ∧ SGivers T.C_Circle g := by
  obtain ⟨gh, Fn_Circle_house_of, Sh⟩ := ok_house (P := P) (w := w) (base := base) T
  obtain ⟨gn, Fn_Circle_names, Sn⟩ := ok_cnames (P := P) (w := w) (base := base) T
  obtain ⟨gr, Fn_Circle_reason, Sr⟩ := ok_reason (P := P) (w := w) (base := base) T
  refine ⟨_, Fun.okL T.F_Circle_givers sc_Circle_givers fun cdv A outer s H E hr =>
(pssl_cons (psl_expr (pel_meth T.cl_Circle T.mt_Circle_house_of Fn_Circle_house_of (hr.mono (by decide)) T.b_Circle_house_of dfl_nil (pel_var (i := 0)) (pal_cons (pel_var (i := 1)) pal_nil)))
  (pssl_one (psl_ret (pel_callTy (cl_tuple) rfl T.n_tuple (by decide +kernel) (pal_cons (pel_lc (own := [("name", 2)]) rfl sc_Circle_givers.nd (pil_val (pel_meth0 T.cl_Circle T.mt_Circle_names Fn_Circle_names (hr.mono (by decide)) T.b_Circle_names dfl_nil (pel_var (i := 0)))) (blkOk_by (N := N_Circle_givers) (sc := defScope s_Circle_givers) (by decide +kernel)) (fun _ _ _ _ _ => (pgl_name (i := 2) sc_Circle_givers.nd)) (fun _ _ _ _ _ => (ptsl_one (ptl_cmp opl_isN (pel_meth T.cl_Circle T.mt_Circle_reason Fn_Circle_reason (hr.mono (by decide)) T.b_Circle_reason dfl_nil (pel_var (i := 0)) (pal_cons (pel_var (i := 2)) (pal_cons (pel_var (i := 1)) pal_nil))) pel_non))) (fun _ _ _ _ _ => (pel_var (i := 2)))) pal_nil))))), ?_⟩
  intro S ms bs ys p hn hl hp
  have hc : lComp (lIter (lMeth T.C_Circle "names" 1 gn [] (lVar 0) aNil)) [2] (gtName 2) (tTru (lBin gIsN (lMeth T.C_Circle "reason" 3 gr [] (lVar 0) (aCons (lVar 2) (aCons (lVar 1) aNil))) (lC .non))) (lVar 2) [some (crD T.C_Circle ms bs ys), some (.str p.1), none] S = .ok (.lst ((ms.filter fun q => isNonD (rsn bs ys q p)).map fun q => D.str q.1)) S := by
    refine comp_okL (iter_ok (meth_ok (d := crD T.C_Circle ms bs ys) (ds := []) rfl (recv_cr (by decide)) rfl rfl (Sn S ms bs ys)) rfl) (by rw [givs_str, List.length_map]; omega) ?_
    rw [givs_str]
    exact comp_filter (enc := fun q : Pr => D.str q.1) (f := fun q : Pr => D.str q.1) (p := fun q => isNonD (rsn bs ys q p)) trivial ms fun q hq => ⟨_, rfl, tru_b (bin_ok (meth_ok (d := crD T.C_Circle ms bs ys) rfl (recv_cr (by decide)) (acons_ok rfl (acons_ok rfl rfl)) rfl (Sr S ms bs ys q p hn hq hp)) rfl rfl) rfl, fun _ => rfl⟩
  exact body_rt (seq_nx (expr_ok (meth_ok (d := crD T.C_Circle ms bs ys) rfl (recv_cr (by decide)) (acons_ok rfl rfl) rfl (Sh S ms bs ys p hn hp))) (ret_ok (callb_ok (acons_ok hc rfl) rfl)))
end
end K10

namespace K10
open PySem PySem.Spec PyProof.Rows L2 MP TL
open K06 (riP Cd cd_of cd_repr)
open K59 (Pr nm givs taks slt isL lets nm_ok sle sorted_strs cnt_nodup slt_trans slt_irrefl)
/-! ### circles alike; a member less, one more; whether a drawing keeps -/
theorem gd_ok {p : Pr} (h : gdP p) : PyData.strOk p.1 = true ∧ PyData.strOk p.2 = true := by
  refine ⟨nm_ok h.1, ?_⟩
  rcases h.2 with e | e
  · rw [e]; kernel_rfl
  · exact nm_ok e
theorem toPDs_ps : ∀ ps : List Pr, toPDs (psD ps) = some (ps.map encP)
  | [] => rfl
  | p :: ps => by
    show (toPD (pD p)).bind _ = _
    have := toPDs_ps ps
    unfold psD at this
    simp [pD, toPD, toPDs, this, encP, psD]
theorem lay_ps : ∀ {ps : List Pr}, (∀ p ∈ ps, gdP p) → PyData.canLayAll0 (ps.map encP) = true ∧ PyData.depthAll (ps.map encP) ≤ 5
  | [], _ => ⟨rfl, by simp [PyData.depthAll]⟩
  | p :: ps, h => by
    obtain ⟨a, b⟩ := lay_ps (ps := ps) fun q hq => h q (by simp [hq])
    have hp := h p (by simp)
    refine ⟨by simp [PyData.canLayAll0, encP, PyData.canLay0, a, (gd_ok hp).1, (gd_ok hp).2], ?_⟩
    simp only [List.map_cons, PyData.depthAll, encP, PyData.depth]
    omega
theorem eqvAll_ps : ∀ ps qs : List Pr, PyData.eqvAll (ps.map encP) (qs.map encP) = decide (ps = qs)
  | [], [] => by simp [PyData.eqvAll]
  | [], _ :: _ => by simp [PyData.eqvAll]
  | _ :: _, [] => by simp [PyData.eqvAll]
  | p :: ps, q :: qs => by
    have ih := eqvAll_ps ps qs
    have hb : PyData.eqv (encP p) (encP q) = decide (p = q) := by
      rw [Bool.eq_iff_iff]
      simp [encP, PyData.eqv, PyData.eqvAll, Prod.ext_iff]
    simp [PyData.eqvAll, ih, hb]
theorem srt_ps (ks : List Pr) (h : ks.length ≤ 1000) : srtOk (psD ks) = true := by
  unfold srtOk
  simp only [Bool.and_eq_true, List.all_eq_true, decide_eq_true_eq, Bool.or_eq_true]
  refine ⟨⟨⟨⟨fun x hx => ?_, fun x hx y hy => ?_⟩, .inl fun x hx => ?_⟩, fun x hx => ?_⟩, by rw [psD_len]; exact sz (by omega)⟩
  all_goals obtain ⟨a, _, rfl⟩ := List.mem_map.mp hx
  · rfl
  · obtain ⟨b, _, rfl⟩ := List.mem_map.mp hy
    rfl
  · rfl
  · simp [MP.encD, toPD, toPDs, pD, PyData.depth, PyData.depthAll]
theorem leD_pD (p q : Pr) : leD (pD p) (pD q) = leP p q := congrFun (congrFun le_encP p) q
theorem sort_ps (ks : List Pr) : (psD ks).mergeSort leD = psD (ks.mergeSort leP) := by
  have e := List.map_mergeSort (r := leP) (s := leD) (f := pD) (l := ks) (fun a _ b _ => (leD_pD a b).symm)
  exact e.symm
theorem catF_ok {S : Sto} {L : List Pr} {p : Pr} (h : L.length ≤ 1000) : gAdd3 S (.ftup (psD L)) (.tup [pD p]) = some (.tup (psD (L ++ [p]))) := by
  have e : gAdd2 S (.ftup (psD L)) (.tup [pD p]) = none := rfl
  unfold gAdd3
  rw [e]
  show (if [pD p] ≠ [] ∧ (psD L).length + [pD p].length ≤ 100000 then some (D.tup (psD L ++ [pD p])) else none) = _
  rw [if_pos ⟨by simp, by rw [psD_len]; simp; omega⟩]
  simp [psD]
theorem ne_tstrs {S : Sto} {as bs : List Str} (ha : ∀ y ∈ as, PyData.strOk y = true) (hb : ∀ y ∈ bs, PyData.strOk y = true) : gNe S (.tup (as.map D.str)) (.tup (bs.map D.str)) = some (.bl (!decide (as = bs))) := by
  have e1 : ∀ as : List Str, toPD (.tup (as.map D.str)) = some (.tuple (as.map PyData.str)) := fun as => by simp [toPD, K59.toPDs_str]
  have sh : ∀ {as : List Str}, (∀ y ∈ as, PyData.strOk y = true) → SeqAt.shaped (.tuple (as.map PyData.str)) = true := fun {as} h => by
    unfold SeqAt.shaped
    rw [Bool.and_eq_true]
    refine ⟨K59.canLay_str h, decide_eq_true ?_⟩
    have h2 := MP.depth_strs as
    simp only [PyData.depth, h2]
    omega
  have e : eqP S (.tup (as.map D.str)) (.tup (bs.map D.str)) = some (decide (as = bs)) := by
    unfold eqP
    dsimp only [vw]
    rw [e1, e1]
    show (if SeqAt.shaped (.tuple (as.map PyData.str)) = true ∧ SeqAt.shaped (.tuple (bs.map PyData.str)) = true then some (PyData.eqv (.tuple (as.map PyData.str)) (.tuple (bs.map PyData.str))) else none) = _
    rw [if_pos ⟨sh ha, sh hb⟩]
    simp [PyData.eqv, eqvAll_strs]
  unfold gNe eqD
  rw [e]
  rfl
theorem notInL {S : Sto} {x : Str} {ys : List Str} : gNotInL S (.str x) (.lst (ys.map D.str)) = some (.bl (!decide (x ∈ ys))) := by
  show (strsD (ys.map D.str)).map _ = _
  rw [strsD_map]
  rfl
theorem notInT {S : Sto} {x : Str} {ys : List Str} : gNotInT S (.str x) (.tup (ys.map D.str)) = some (.bl (!decide (x ∈ ys))) := by
  show (strsD (ys.map D.str)).map _ = _
  rw [strsD_map]
  rfl
theorem inT {S : Sto} {x : Str} {ys : List Str} : gInT S (.str x) (.tup (ys.map D.str)) = some (.bl (decide (x ∈ ys))) := by
  show (strsD (ys.map D.str)).map _ = _
  rw [strsD_map]
  rfl
theorem GoodP.taks {ps : List Pr} (h : GoodP ps) {p : Pr} (hp : p ∈ ps) : p.2 ∈ givs ps := by
  rw [← h.2.2.2.2]
  exact (List.mergeSort_perm _ _).mem_iff.mpr (List.mem_map_of_mem (f := fun p : Pr => p.2) hp)
theorem filter_none {α : Type} {xs : List α} {p : α → Bool} (h : ∀ x ∈ xs, p x = false) : xs.filter p = [] := List.filter_eq_nil_iff.mpr fun x hx => by rw [h x hx]; exact Bool.false_ne_true
def encC (ms bs ys : List Pr) : PyData := .tuple [.tuple (ms.map encP), .tuple (bs.map encP), .tuple (ys.map fun p => PyData.tuple [encP p])]
theorem toPDs_pst : ∀ ys : List Pr, toPDs (ys.map fun p => D.tup (psD [p])) = some (ys.map fun p => PyData.tuple [encP p])
  | [] => rfl
  | y :: ys => by
    have ih := toPDs_pst ys
    have e : toPD (.tup (psD [y])) = some (.tuple [encP y]) := by simp [toPD, toPDs_ps]
    show (toPD (.tup (psD [y]))).bind _ = _
    rw [e]
    show (toPDs (ys.map fun p => D.tup (psD [p]))).map _ = _
    rw [ih]
    rfl
theorem eq3 {S : Sto} {ms bs ys : List Pr} (hg : GoodC ms bs ys) : gEq S (.tup [.ftup (psD ms), .tup (psD bs), pst ys]) (.tup [.ftup (psD ms), .tup (psD bs), pst ys]) = some (.bl true) := by
  have e1 : toPD (.tup [.ftup (psD ms), .tup (psD bs), pst ys]) = some (encC ms bs ys) := by simp [toPD, toPDs, toPDs_ps, pst, toPDs_pst, encC]
  have sh : SeqAt.shaped (encC ms bs ys) = true := by
    unfold SeqAt.shaped encC
    obtain ⟨a1, b1⟩ := lay_ps hg.gm
    obtain ⟨a2, b2⟩ := lay_ps fun p hp => (hg.gb p hp).gd
    obtain ⟨a3, b3⟩ := lay_ps fun p hp => (hg.gy p hp).gd
    have l := hg.ly
    match ys, l, a3, b3 with
    | [], _, _, _ =>
      rw [Bool.and_eq_true]
      refine ⟨by simp [PyData.canLay0, PyData.canLayAll0, a1, a2], decide_eq_true ?_⟩
      simp only [PyData.depth, PyData.depthAll, List.map_nil]
      omega
    | [y], _, a3, b3 =>
      rw [Bool.and_eq_true]
      refine ⟨by simp [PyData.canLay0, PyData.canLayAll0, a1, a2] at a3 ⊢; exact a3, decide_eq_true ?_⟩
      simp only [PyData.depth, PyData.depthAll, List.map_cons, List.map_nil] at b3 ⊢
      omega
    | _ :: _ :: _, l, _, _ => simp at l
  have ev : PyData.eqv (encC ms bs ys) (encC ms bs ys) = true := by
    unfold encC
    have l := hg.ly
    have e2 : ∀ p : Pr, PyData.eqv (encP p) (encP p) = true := fun p => by
      have := eqvAll_ps [p] [p]
      simpa [PyData.eqvAll] using this
    match ys, l with
    | [], _ => simp [PyData.eqv, PyData.eqvAll, eqvAll_ps]
    | [y], _ => simp [PyData.eqv, PyData.eqvAll, eqvAll_ps, e2]
    | _ :: _ :: _, l => simp at l
  have e : eqP S (.tup [.ftup (psD ms), .tup (psD bs), pst ys]) (.tup [.ftup (psD ms), .tup (psD bs), pst ys]) = some true := by
    unfold eqP
    dsimp only [vw]
    rw [e1]
    show (if SeqAt.shaped (encC ms bs ys) = true ∧ SeqAt.shaped (encC ms bs ys) = true then some (PyData.eqv (encC ms bs ys) (encC ms bs ys)) else none) = _
    rw [if_pos ⟨sh, sh⟩, ev]
  unfold gEq eqD
  rw [e]
  rfl
open Classical in
noncomputable def gpCi (C : Addr) : MP.G2 := fun _ x y => if ∃ q : List Pr × List Pr × List Pr, GoodC q.1 q.2.1 q.2.2 ∧ x = crD C q.1 q.2.1 q.2.2 ∧ y = x then some (.bl true) else none
theorem gpCi_of {C : Addr} {S : Sto} {ms bs ys : List Pr} (h : GoodC ms bs ys) : gpCi C S (crD C ms bs ys) (crD C ms bs ys) = some (.bl true) := if_pos ⟨(ms, bs, ys), h, rfl, rfl⟩
theorem rle_eq {S : Sto} {a b : R D} (h : b = a) : RLe S a b := h ▸ .refl _
/-- without a member, with one more -/
def wo (x : Str) (ms : List Pr) : List Pr := ms.filter fun p => !decide (p.1 = x)
theorem good_wo {ms bs ys : List Pr} (hg : GoodC ms bs ys) (x : Str) : GoodC (wo x ms) bs ys := ⟨Nat.le_trans (List.length_filter_le _ _) hg.lm, (List.filter_sublist.map _).nodup hg.nd, hg.lb, hg.nb, hg.ly, fun p hp => hg.gm p (List.mem_filter.mp hp).1, hg.gb, hg.gy⟩
theorem good_wi {ms bs ys : List Pr} (hg : GoodC ms bs ys) {p : Pr} (hp : gdP p) (hn : p.1 ∉ givs ms) (hl : ms.length ≤ 20) : GoodC ((ms ++ [p]).mergeSort leP) bs ys := by
  have pm := List.mergeSort_perm (ms ++ [p]) leP
  refine ⟨by rw [pm.length_eq, List.length_append, List.length_singleton]; omega, ?_, hg.lb, hg.nb, hg.ly, fun q hq => ?_, hg.gb, hg.gy⟩
  · refine (pm.map fun q : Pr => q.1).nodup_iff.mpr ?_
    rw [List.map_append, List.map_singleton, List.nodup_append]
    refine ⟨hg.nd, by simp, fun a ha b hb z => hn ?_⟩
    rw [List.mem_singleton] at hb
    rw [← hb, ← z]
    exact ha
  · rcases List.mem_append.mp (pm.mem_iff.mp hq) with h | h
    · exact hg.gm q h
    · rw [List.mem_singleton.mp h]
      exact hp
def SWithout (C : Addr) (g : F) : Prop := ∀ (S : Sto) (ms bs ys : List Pr) (p : Pr), GoodC ms bs ys → p ∈ ms → g [crD C ms bs ys, .str p.1] S = .ok (crD C (wo p.1 ms) bs ys) S
def SWithOne (C : Addr) (g : F) : Prop := ∀ (S : Sto) (ms bs ys : List Pr) (p : Pr), GoodC ms bs ys → gdP p → p.1 ∉ givs ms → ms.length ≤ 20 → g [crD C ms bs ys, pD p] S = .ok (crD C ((ms ++ [p]).mergeSort leP) bs ys) S
/-- members without houses -/
def hsP (ns : List Str) : List Pr := ns.map fun x => (x, "")
theorem hs_givs (ns : List Str) : givs (hsP ns) = ns := by
  unfold givs hsP
  rw [List.map_map]
  exact List.map_id _
theorem hs_mem {ns : List Str} {x : Str} (h : x ∈ ns) : (x, ("" : Str)) ∈ hsP ns := List.mem_map_of_mem (f := fun x : Str => ((x, "") : Pr)) h
def rsH (bs : List Pr) (p : Pr) : D := rsn bs [] (p.1, "") (p.2, "")
def rowD (bs : List Pr) (p : Pr) : D := .tup [.str p.1, .str p.2, rsH bs p]
def SBroken (C CD : Addr) (g : F) : Prop := ∀ (S : Sto) (bs ps : List Pr), GoodC (hsP (givs ps)) bs [] → GoodP ps → g [crD C (hsP (givs ps)) bs [], drD CD ps] S = .ok (.tup ((ps.filter fun p => !isNonD (rsH bs p)).map (rowD bs))) S
def SKeeps (C CD : Addr) (g : F) : Prop := ∀ (S : Sto) (bs ps : List Pr), GoodC (hsP (givs ps)) bs [] → GoodP ps → (ps.filter fun p => !isNonD (rsH bs p)) = [] → g [crD C (hsP (givs ps)) bs [], drD CD ps] S = .ok (.bl true) S
section
variable {P : Program} {w : World} {K : PySem.W.Frag} {mg : Str → Option Value} {base : Heap}
theorem ok_ceq (T : T10 K mg) : FnL P w K mg base 1 T.f_Circle___eq__ T.fd_Circle___eq__ ["self", "other"] (F2 (gpCi T.C_Circle)) := by
  refine FnL.le (Fun.okL T.F_Circle___eq__ sc_Circle___eq__ fun cdv A outer s H E hr =>
(pssl_cons (psl_if (ptl_not (ptl_truth (pel_isi rfl T.n_isinstance (pel_var (i := 1)) (pe_glob rfl T.mg_Circle (v := .ref T.C_Circle) rfl) (.own _) T.isi_Circle))) (pssl_one (psl_ret pel_bl)) pssl_nil)
  (pssl_cons (psl_par (i := 2) (j := 3) rfl sc_Circle___eq__.nd (pal_cons (pel_tup (pal_cons (pel_fld T.cl_Circle T.na_Circle_members (pel_var (i := 0))) (pal_cons (pel_fld T.cl_Circle T.na_Circle_bars (pel_var (i := 0))) (pal_cons (pel_fld T.cl_Circle T.na_Circle_past (pel_var (i := 0))) pal_nil)))) (pal_cons (pel_tup (pal_cons (pel_fld T.cl_Circle T.na_Circle_members (pel_var (i := 1))) (pal_cons (pel_fld T.cl_Circle T.na_Circle_bars (pel_var (i := 1))) (pal_cons (pel_fld T.cl_Circle T.na_Circle_past (pel_var (i := 1))) pal_nil)))) pal_nil)))
  (pssl_one (psl_ret (pel_and (pel_cmp (opl_eq hr.units) (pel_var (i := 2)) (pel_var (i := 3))) (pel_one (pel_cmp (opl_eq hr.units) (pel_fld T.cl_Circle T.na_Circle_gap (pel_var (i := 0))) (pel_fld T.cl_Circle T.na_Circle_gap (pel_var (i := 1))))))))))) fun ds S hl => ?_
  match ds, hl with
  | [x, y], _ =>
    show RLe S (lift1 (gpCi T.C_Circle S x y) S) _
    unfold gpCi
    split
    · rename_i h
      obtain ⟨⟨ms, bs, ys⟩, hg, rfl, rfl⟩ := h
      dsimp only at hg ⊢
      have hi : ∀ d : D, d = crD T.C_Circle ms bs ys → gIsi (tabCi T.C_Circle) S d = some (.bl true) := fun d hd => by
        subst hd
        show (if T.C_Circle = T.C_Circle then some true else none : Option Bool).map D.bl = _
        rw [if_pos rfl]
        rfl
      exact rle_eq (body_rt (seq_nx (if_ff (not_ok (tru_b (isi_ok rfl (hi _ rfl)) rfl)) rfl) (seq_nx (par_ok (acons_ok (tup_ok (acons_ok (fld_cr rfl rfl) (acons_ok (fld_cr rfl rfl) (acons_ok (fld_cr rfl rfl) rfl))) (by simp)) (acons_ok (tup_ok (acons_ok (fld_cr rfl rfl) (acons_ok (fld_cr rfl rfl) (acons_ok (fld_cr rfl rfl) rfl))) (by simp)) rfl))) (ret_ok
        (andv_tt (d := .bl true) (bin_ok rfl rfl (eq3 hg)) rfl (bin_ok (fld_cr rfl rfl) (fld_cr rfl rfl) (eq_ii.trans (by rw [decide_eq_true rfl]))))))))
    · exact .bad _
theorem ok_without (T : T10 K mg) : ∃ g, FnL P w K mg base 3 T.f_without T.fd_without ["circle", "name"] g ∧ SWithout T.C_Circle g := by
  obtain ⟨gi, Fn_Circle___init__, le_Circle⟩ := ok_cinit (P := P) (w := w) (base := base) T
  obtain ⟨gh, Fn_Circle_house_of, Sh⟩ := ok_house (P := P) (w := w) (base := base) T
  have bC4 := T.b4
  have dC4 : Dfl K [] [] [] := dfl_nil
  refine ⟨_, Fun.okL T.F_without sc_without fun cdv A outer s H E hr =>
(pssl_cons (psl_expr (pel_meth T.cl_Circle T.mt_Circle_house_of Fn_Circle_house_of (hr.mono (by decide)) T.b_Circle_house_of dfl_nil (pel_var (i := 0)) (pal_cons (pel_var (i := 1)) pal_nil)))
  (pssl_cons (psl_set (i := 2) sc_without.nd (pel_callTy cl_ftuple rfl T.n_tuple (by decide +kernel) (pal_cons (pel_lc (own := [("member", 3)]) rfl sc_without.nd (pil_val (pel_fld T.cl_Circle T.na_Circle_members (pel_var (i := 0)))) (blkOk_by (N := N_without) (sc := defScope s_without) (by decide +kernel)) (fun _ _ _ _ _ => (pgl_name (i := 3) sc_without.nd)) (fun _ _ _ _ _ => (ptsl_one (ptl_cmp (opl_ne hr.units) (pel_ix ixl_seq (pel_var (i := 3)) pel_int) (pel_var (i := 1))))) (fun _ _ _ _ _ => (pel_var (i := 3)))) pal_nil)))
  (pssl_one (psl_ret (pel_make (n := 4) T.mk_Circle Fn_Circle___init__ le_Circle (hr.mono (by decide)) rfl T.mg_Circle bC4 dC4 (pal_cons (pel_var (i := 2)) (pal_cons (pel_fld T.cl_Circle T.na_Circle_bars (pel_var (i := 0))) (pal_cons (pel_fld T.cl_Circle T.na_Circle_past (pel_var (i := 0))) (pal_cons (pel_fld T.cl_Circle T.na_Circle_gap (pel_var (i := 0))) pal_nil))))))))), ?_⟩
  intro S ms bs ys p hg hp
  have lm := hg.lm
  have c1 : lComp (lIter (lFld T.C_Circle "members" (lVar 0))) [3] (gtName 3) (tTru (lBin gNe (lBin gIx (lVar 3) (lC (.int 0))) (lVar 1))) (lVar 3) [some (crD T.C_Circle ms bs ys), some (.str p.1), none, none] S = .ok (.lst (psD (wo p.1 ms))) S :=
    comp_okL (iter_ok (fld_cr rfl rfl) rfl) (by rw [psD_len]; omega) (comp_filter (enc := pD) (f := pD) (p := fun q : Pr => !decide (q.1 = p.1)) trivial ms fun q hq => ⟨_, rfl, tru_b (bin_ok (bin_ok rfl rfl rfl) rfl ne_ss) rfl, fun _ => rfl⟩)
  exact body_rt (seq_nx (expr_ok (meth_ok (d := crD T.C_Circle ms bs ys) rfl (recv_cr (by decide)) (acons_ok rfl rfl) rfl (Sh S ms bs ys p hg.nd hp))) (seq_nx (set_ok (callb_ok (acons_ok c1 rfl) rfl)) (ret_ok (call_ok (acons_ok rfl (acons_ok (fld_cr rfl rfl) (acons_ok (fld_cr rfl rfl) (acons_ok (fld_cr rfl rfl) rfl)))) rfl (crF_of (good_wo hg p.1) ⟨_, _, rfl, .inl rfl, .inl rfl⟩)))))
theorem ok_withone (T : T10 K mg) : ∃ g, FnL P w K mg base 3 T.f_with_one T.fd_with_one ["circle", "member"] g ∧ SWithOne T.C_Circle g := by
  obtain ⟨gi, Fn_Circle___init__, le_Circle⟩ := ok_cinit (P := P) (w := w) (base := base) T
  obtain ⟨gn, Fn_Circle_names, Sn⟩ := ok_cnames (P := P) (w := w) (base := base) T
  have bC4 := T.b4
  have dC4 : Dfl K [] [] [] := dfl_nil
  refine ⟨_, Fun.okL T.F_with_one sc_with_one fun cdv A outer s H E hr =>
(pssl_cons (psl_if (ptl_cmp opl_inT (pel_ix ixl_seq (pel_var (i := 1)) pel_int) (pel_meth0 T.cl_Circle T.mt_Circle_names Fn_Circle_names (hr.mono (by decide)) T.b_Circle_names dfl_nil (pel_var (i := 0)))) (pssl_one psl_bad) pssl_nil)
  (pssl_one (psl_ret (pel_make (n := 4) T.mk_Circle Fn_Circle___init__ le_Circle (hr.mono (by decide)) rfl T.mg_Circle bC4 dC4 (pal_cons (pel_callTy cl_ftuple rfl T.n_tuple (by decide +kernel) (pal_cons (pel_callB (cl_sortedT hr.units) rfl T.n_sorted (by decide +kernel) (pal_cons (pel_op opl_add3 (pel_fld T.cl_Circle T.na_Circle_members (pel_var (i := 0))) (pel_tup (pal_cons (pel_var (i := 1)) pal_nil))) pal_nil)) pal_nil)) (pal_cons (pel_fld T.cl_Circle T.na_Circle_bars (pel_var (i := 0))) (pal_cons (pel_fld T.cl_Circle T.na_Circle_past (pel_var (i := 0))) (pal_cons (pel_fld T.cl_Circle T.na_Circle_gap (pel_var (i := 0))) pal_nil)))))))), ?_⟩
  intro S ms bs ys p hg hp hx hl
  have t1 : tTru (lBin gInT (lBin gIx (lVar 1) (lC (.int 0))) (lMeth T.C_Circle "names" 1 gn [] (lVar 0) aNil)) [some (crD T.C_Circle ms bs ys), some (pD p)] S = .ok false S := tru_b (bin_ok (x := .str p.1) (bin_ok (x := pD p) rfl rfl rfl) (meth_ok (d := crD T.C_Circle ms bs ys) (ds := []) rfl (recv_cr (by decide)) rfl rfl (Sn S ms bs ys)) inT) (decide_eq_false hx)
  have e1 : gAdd3 S (.ftup (psD ms)) (.tup [pD p]) = some (.tup (psD (ms ++ [p]))) := catF_ok (by omega)
  have e2 : gSortedT S [.tup (psD (ms ++ [p]))] = some (.lst (psD ((ms ++ [p]).mergeSort leP))) := by
    show (if srtOk (psD (ms ++ [p])) = true then some (D.lst ((psD (ms ++ [p])).mergeSort leD)) else none) = _
    rw [if_pos (srt_ps _ (by rw [List.length_append, List.length_singleton]; omega)), sort_ps]
  exact body_rt (seq_nx (if_ff t1 rfl) (ret_ok (call_ok (acons_ok (callb_ok (acons_ok (callb_ok (acons_ok (bin_ok (fld_cr rfl rfl) (tup_ok (acons_ok rfl rfl) (by simp)) e1) rfl) e2) rfl) rfl) (acons_ok (fld_cr rfl rfl) (acons_ok (fld_cr rfl rfl) (acons_ok (fld_cr rfl rfl) rfl)))) rfl (crF_of (good_wi hg hp hx hl) ⟨_, _, rfl, .inl rfl, .inl rfl⟩))))
theorem ok_broken (T : T10 K mg) : ∃ g, FnL P w K mg base 3 T.f_broken T.fd_broken ["circle", "drawing"] g ∧ SBroken T.C_Circle T.C_Drawing g := by
  obtain ⟨gn, Fn_Circle_names, Sn⟩ := ok_cnames (P := P) (w := w) (base := base) T
  obtain ⟨gr, Fn_Circle_reason, Sr⟩ := ok_reason (P := P) (w := w) (base := base) T
  refine ⟨_, Fun.okL T.F_broken sc_broken fun cdv A outer s H E hr =>
(pssl_cons (psl_asg (pel_tup (pal_cons (pel_meth0 T.cl_Circle T.mt_Circle_names Fn_Circle_names (hr.mono (by decide)) T.b_Circle_names dfl_nil (pel_var (i := 0))) (pal_cons (pel_lc (own := [("giver", 4), ("taker", 5)]) rfl sc_broken.nd (pil_val (pel_fld T.cl_Drawing T.na_Drawing_pairs (pel_var (i := 1)))) (blkOk_by (N := N_broken) (sc := defScope s_broken) (by decide +kernel)) (fun _ _ _ _ _ => (pgl_tup (n := 2) rfl (pgsl_cons (pgl_name (i := 4) sc_broken.nd) (pgsl_cons (pgl_name (i := 5) sc_broken.nd) pgsl_nil)))) (fun _ _ _ _ _ => ptsl_nil) (fun _ _ _ _ _ => (pel_var (i := 4)))) pal_nil))) (pgl_tup (n := 2) rfl (pgsl_cons (pgl_name (i := 2) sc_broken.nd) (pgsl_cons (pgl_name (i := 3) sc_broken.nd) pgsl_nil))))
  (pssl_cons (psl_set (i := 6) sc_broken.nd (pel_op opl_add2 (pel_lc (own := [("name", 7)]) rfl sc_broken.nd (pil_val (pel_var (i := 2))) (blkOk_by (N := N_broken) (sc := defScope s_broken) (by decide +kernel)) (fun _ _ _ _ _ => (pgl_name (i := 7) sc_broken.nd)) (fun _ _ _ _ _ => (ptsl_one (ptl_cmp opl_notInL (pel_var (i := 7)) (pel_var (i := 3))))) (fun _ _ _ _ _ => (pel_var (i := 7)))) (pel_lc (own := [("name", 7)]) rfl sc_broken.nd (pil_val (pel_var (i := 3))) (blkOk_by (N := N_broken) (sc := defScope s_broken) (by decide +kernel)) (fun _ _ _ _ _ => (pgl_name (i := 7) sc_broken.nd)) (fun _ _ _ _ _ => (ptsl_one (ptl_cmp opl_notInT (pel_var (i := 7)) (pel_var (i := 2))))) (fun _ _ _ _ _ => (pel_var (i := 7))))))
  (pssl_cons (psl_if (ptl_cmp (opl_ne hr.units) (pel_var (i := 6)) (pel_lst pal_nil)) (pssl_one psl_bad) pssl_nil)
  (pssl_cons (psl_setLc (i := 8) (own := [("giver", 4), ("taker", 5)]) sc_broken.nd rfl (sw_true rfl rfl rfl (by decide +kernel)) rfl (pil_val (pel_fld T.cl_Drawing T.na_Drawing_pairs (pel_var (i := 1)))) (blkOk_by (N := N_broken) (sc := defScope s_broken) (by decide +kernel)) (.inl rfl) (fun _ _ _ _ _ => (pgl_tup (n := 2) rfl (pgsl_cons (pgl_name (i := 4) sc_broken.nd) (pgsl_cons (pgl_name (i := 5) sc_broken.nd) pgsl_nil)))) (fun _ _ _ _ _ => ptsl_nil) (fun _ _ _ _ _ => (pel_tup (pal_cons (pel_var (i := 4)) (pal_cons (pel_var (i := 5)) (pal_cons (pel_meth T.cl_Circle T.mt_Circle_reason Fn_Circle_reason (hr.mono (by decide)) T.b_Circle_reason dfl_nil (pel_var (i := 0)) (pal_cons (pel_var (i := 4)) (pal_cons (pel_var (i := 5)) pal_nil))) pal_nil))))))
  (pssl_one (psl_ret (pel_callTy (cl_tuple) rfl T.n_tuple (by decide +kernel) (pal_cons (pel_lc (own := [("row", 9)]) rfl sc_broken.nd (pil_val (pel_var (i := 8))) (blkOk_by (N := N_broken) (sc := defScope s_broken) (by decide +kernel)) (fun _ _ _ _ _ => (pgl_name (i := 9) sc_broken.nd)) (fun _ _ _ _ _ => (ptsl_one (ptl_cmp opl_notN (pel_ix ixl_seq (pel_var (i := 9)) pel_int) pel_non))) (fun _ _ _ _ _ => (pel_var (i := 9)))) pal_nil)))))))), ?_⟩
  intro S bs ps hc hp
  have hpl : ps.length ≤ 30 := hp.1
  obtain ⟨ns, hns⟩ : ∃ ns, ns = givs ps := ⟨_, rfl⟩
  have hnl : ns.length ≤ 30 := by rw [hns]; unfold givs; rw [List.length_map]; exact hpl
  have Sn' : gn [crD T.C_Circle (hsP ns) bs []] S = .ok (.tup (ns.map D.str)) S := by
    have := Sn S (hsP ns) bs []
    rwa [hs_givs] at this
  rw [← hns] at hc ⊢
  have g1 : lComp (lIter (lFld T.C_Drawing "pairs" (lVar 1))) [4, 5] (gtTup 2 (gtCons (gtName 4) (gtCons (gtName 5) gtNil))) tYesL (lVar 4) [some (crD T.C_Circle (hsP ns) bs []), some (drD T.C_Drawing ps), none, none, none, none, none, none, none, none] S = .ok (.lst ((givs ps).map D.str)) S := by
    unfold givs
    rw [List.map_map]
    exact comp_okL (iter_ok (fld_dr rfl) rfl) (by rw [psD_len]; omega) (comp_map (enc := pD) (f := fun p => .str p.1) trivial ps fun p hp => ⟨_, rfl, rfl⟩)
  have q1 : lAsg (gtTup 2 (gtCons (gtName 2) (gtCons (gtName 3) gtNil))) (lTup (aCons (lMeth T.C_Circle "names" 1 gn [] (lVar 0) aNil) (aCons (lComp (lIter (lFld T.C_Drawing "pairs" (lVar 1))) [4, 5] (gtTup 2 (gtCons (gtName 4) (gtCons (gtName 5) gtNil))) tYesL (lVar 4)) aNil))) [some (crD T.C_Circle (hsP ns) bs []), some (drD T.C_Drawing ps), none, none, none, none, none, none, none, none] S = .ok (.nx [some (crD T.C_Circle (hsP ns) bs []), some (drD T.C_Drawing ps), some (.tup (ns.map D.str)), some (.lst ((givs ps).map D.str)), none, none, none, none, none, none]) S :=
    asg_ok (tup_ok (acons_ok (meth_ok (d := crD T.C_Circle (hsP ns) bs []) (ds := []) rfl (recv_cr (by decide)) rfl rfl Sn') (acons_ok g1 rfl)) (by simp)) rfl
  have c1 : lComp (lIter (lVar 2)) [7] (gtName 7) (tTru (lBin gNotInL (lVar 7) (lVar 3))) (lVar 7) [some (crD T.C_Circle (hsP ns) bs []), some (drD T.C_Drawing ps), some (.tup (ns.map D.str)), some (.lst ((givs ps).map D.str)), none, none, none, none, none, none] S = .ok (.lst []) S := by
    have h := comp_filter (chk := fun _ => True) (g := gtName 7) (tt := tTru (lBin gNotInL (lVar 7) (lVar 3))) (te := lVar 7) (ρ0 := [some (crD T.C_Circle (hsP ns) bs []), some (drD T.C_Drawing ps), some (.tup (ns.map D.str)), some (.lst ((givs ps).map D.str)), none, none, none, none, none, none]) (S := S) (enc := D.str) (f := D.str) (p := fun x => !decide (x ∈ givs ps)) trivial ns fun x hx => ⟨_, rfl, tru_b (bin_ok rfl rfl notInL) rfl, fun _ => rfl⟩
    rw [filter_none fun x hx => by rw [decide_eq_true (by rw [← hns]; exact hx)]; rfl] at h
    exact comp_okL (iter_ok rfl rfl) (by rw [List.length_map]; omega) h
  have c2 : lComp (lIter (lVar 3)) [7] (gtName 7) (tTru (lBin gNotInT (lVar 7) (lVar 2))) (lVar 7) [some (crD T.C_Circle (hsP ns) bs []), some (drD T.C_Drawing ps), some (.tup (ns.map D.str)), some (.lst ((givs ps).map D.str)), none, none, none, none, none, none] S = .ok (.lst []) S := by
    have h := comp_filter (chk := fun _ => True) (g := gtName 7) (tt := tTru (lBin gNotInT (lVar 7) (lVar 2))) (te := lVar 7) (ρ0 := [some (crD T.C_Circle (hsP ns) bs []), some (drD T.C_Drawing ps), some (.tup (ns.map D.str)), some (.lst ((givs ps).map D.str)), none, none, none, none, none, none]) (S := S) (enc := D.str) (f := D.str) (p := fun x => !decide (x ∈ ns)) trivial (givs ps) fun x hx => ⟨_, rfl, tru_b (bin_ok rfl rfl notInT) rfl, fun _ => rfl⟩
    rw [filter_none fun x hx => by rw [decide_eq_true (by rw [hns]; exact hx)]; rfl] at h
    have hgl : ((givs ps).map D.str).length ≤ 100000 := by unfold givs; rw [List.length_map, List.length_map]; omega
    exact comp_okL (iter_ok rfl rfl) hgl h
  have q2 := set_ok (i := 6) (bin_ok c1 c2 (show gAdd2 S (.lst []) (.lst []) = some (.lst []) from catL rfl rfl rfl (by decide)))
  have t3 : gNe S (.lst []) (.lst []) = some (.bl false) := by rfl
  have q4 : ∀ ρ : Ev, ρ[0]? = some (some (crD T.C_Circle (hsP ns) bs [])) → ρ[1]? = some (some (drD T.C_Drawing ps)) → ρ.length = 10 → lComp (lIter (lFld T.C_Drawing "pairs" (lVar 1))) [4, 5] (gtTup 2 (gtCons (gtName 4) (gtCons (gtName 5) gtNil))) tYesL (lTup (aCons (lVar 4) (aCons (lVar 5) (aCons (lMeth T.C_Circle "reason" 3 gr [] (lVar 0) (aCons (lVar 4) (aCons (lVar 5) aNil))) aNil)))) ρ S = .ok (.lst (ps.map (rowD bs))) S := fun ρ h0 h1 hl => by
    match ρ, h0, h1, hl with
    | [_, _, a, b, c, d, e, f, g, h], h0, h1, _ =>
      have e0 := Option.some.inj h0
      have e1 := Option.some.inj h1
      subst e0 e1
      refine comp_okL (iter_ok (fld_dr rfl) rfl) (by rw [psD_len]; omega) (comp_map (enc := pD) (f := rowD bs) trivial ps fun p hpp => ⟨_, rfl, tup_ok (acons_ok rfl (acons_ok rfl (acons_ok (meth_ok (d := crD T.C_Circle (hsP ns) bs []) rfl (recv_cr (by decide)) (acons_ok rfl (acons_ok rfl rfl)) rfl (Sr S (hsP ns) bs [] (p.1, "") (p.2, "") hc.nd ?_ ?_)) rfl))) (by simp)⟩)
      · exact hs_mem (by rw [hns]; exact List.mem_map_of_mem (f := fun p : Pr => p.1) hpp)
      · exact hs_mem (by rw [hns]; exact hp.taks hpp)
  have q5 : ∀ ρ : Ev, ρ[8]? = some (some (.lst (ps.map (rowD bs)))) → ρ.length = 10 → lComp (lIter (lVar 8)) [9] (gtName 9) (tTru (lBin gNotN (lBin gIx (lVar 9) (lC (.int 2))) (lC .non))) (lVar 9) ρ S = .ok (.lst ((ps.filter fun p => !isNonD (rsH bs p)).map (rowD bs))) S := fun ρ h8 hl => by
    match ρ, h8, hl with
    | [a, b, c, d, e, f, g, h, _, i], h8, _ =>
      have e8 := Option.some.inj h8
      subst e8
      exact comp_okL (iter_ok rfl rfl) (by rw [List.length_map]; omega) (comp_filter (enc := rowD bs) (f := rowD bs) (p := fun p => !isNonD (rsH bs p)) trivial ps fun p hpp => ⟨_, rfl, tru_b (bin_ok (bin_ok rfl rfl (show gIx S (rowD bs p) (.int 2) = some (rsH bs p) from rfl)) rfl rfl) rfl, fun _ => rfl⟩)
  exact body_rt (seq_nx q1 (seq_nx q2 (seq_nx (if_ff (tru_b (bin_ok rfl (lst_ok rfl (by simp)) t3) rfl) rfl) (seq_nx (set_ok (q4 _ rfl rfl rfl)) (ret_ok (callb_ok (acons_ok (q5 _ rfl rfl) rfl) rfl))))))
theorem ok_keeps (T : T10 K mg) : ∃ g, FnL P w K mg base 4 T.f_keeps T.fd_keeps ["circle", "drawing"] g ∧ SKeeps T.C_Circle T.C_Drawing g := by
  obtain ⟨gn, Fn_Circle_names, Sn⟩ := ok_cnames (P := P) (w := w) (base := base) T
  obtain ⟨gb, Fn_broken, Sb⟩ := ok_broken (P := P) (w := w) (base := base) T
  refine ⟨_, Fun.okL T.F_keeps sc_keeps fun cdv A outer s H E hr =>
(pssl_cons (psl_if (ptl_cmp (opl_ne hr.units) (pel_meth0 T.cl_Circle T.mt_Circle_names Fn_Circle_names (hr.mono (by decide)) T.b_Circle_names dfl_nil (pel_var (i := 0))) (pel_callTy (cl_tuple) rfl T.n_tuple (by decide +kernel) (pal_cons (pel_lc (own := [("giver", 2), ("taker", 3)]) rfl sc_keeps.nd (pil_val (pel_fld T.cl_Drawing T.na_Drawing_pairs (pel_var (i := 1)))) (blkOk_by (N := N_keeps) (sc := defScope s_keeps) (by decide +kernel)) (fun _ _ _ _ _ => (pgl_tup (n := 2) rfl (pgsl_cons (pgl_name (i := 2) sc_keeps.nd) (pgsl_cons (pgl_name (i := 3) sc_keeps.nd) pgsl_nil)))) (fun _ _ _ _ _ => ptsl_nil) (fun _ _ _ _ _ => (pel_var (i := 2)))) pal_nil))) (pssl_one (psl_ret pel_bl)) pssl_nil)
  (pssl_one (psl_ret (pel_cmp (opl_eq hr.units) (pel_call Fn_broken (hr.mono (by decide)) rfl T.mg_broken T.F_broken.kp T.b_broken dfl_nil (pal_cons (pel_var (i := 0)) (pal_cons (pel_var (i := 1)) pal_nil))) (pel_tup pal_nil))))), ?_⟩
  intro S bs ps hc hp hk
  have hpl : ps.length ≤ 30 := hp.1
  have hb := Sb S bs ps hc hp
  rw [hk] at hb
  have Sn' : gn [crD T.C_Circle (hsP (givs ps)) bs []] S = .ok (.tup ((givs ps).map D.str)) S := by
    have := Sn S (hsP (givs ps)) bs []
    rwa [hs_givs] at this
  have g1 : lComp (lIter (lFld T.C_Drawing "pairs" (lVar 1))) [2, 3] (gtTup 2 (gtCons (gtName 2) (gtCons (gtName 3) gtNil))) tYesL (lVar 2) [some (crD T.C_Circle (hsP (givs ps)) bs []), some (drD T.C_Drawing ps), none, none] S = .ok (.lst ((givs ps).map D.str)) S := by
    have e : (givs ps).map D.str = ps.map fun p => D.str p.1 := givs_str ps
    rw [e]
    exact comp_okL (iter_ok (fld_dr rfl) rfl) (by rw [psD_len]; omega) (comp_map (enc := pD) (f := fun p => .str p.1) trivial ps fun p hp => ⟨_, rfl, rfl⟩)
  have oks : ∀ y ∈ givs ps, PyData.strOk y = true := fun y hy => by
    obtain ⟨p, hpp, rfl⟩ := List.mem_map.mp hy
    exact nm_ok (hp.2.1 p hpp).1
  have t1 : tTru (lBin gNe (lMeth T.C_Circle "names" 1 gn [] (lVar 0) aNil) (lCallB gTuple (aCons (lComp (lIter (lFld T.C_Drawing "pairs" (lVar 1))) [2, 3] (gtTup 2 (gtCons (gtName 2) (gtCons (gtName 3) gtNil))) tYesL (lVar 2)) aNil))) [some (crD T.C_Circle (hsP (givs ps)) bs []), some (drD T.C_Drawing ps), none, none] S = .ok false S :=
    tru_b (bin_ok (meth_ok (d := crD T.C_Circle (hsP (givs ps)) bs []) (ds := []) rfl (recv_cr (by decide)) rfl rfl Sn') (callb_ok (acons_ok g1 rfl) rfl) (ne_tstrs oks oks)) (by rw [decide_eq_true rfl]; rfl)
  exact body_rt (seq_nx (if_ff t1 rfl) (ret_ok (bin_ok (call_ok (acons_ok rfl (acons_ok rfl rfl)) rfl hb) (tup_ok rfl (by simp)) (show gEq S (.tup []) (.tup []) = some (.bl true) by rfl))))
end
end K10

namespace K10
open PySem PySem.Spec PyProof.Rows L2 MP TL
open K06 (riP Cd cd_of cd_repr)
open K59 (Pr nm givs taks slt isL lets nm_ok sle sorted_strs cnt_nodup slt_trans slt_irrefl)
open K59 (slt_tri slt_ne)
/-! ### law -/
theorem tupF_ok {t : LA} {ρ : Ev} {S S1 : Sto} {ds : List D} (h : t ρ S = .ok ds S1) (hl : ds.length ≤ 1000) : lTupF t ρ S = .ok (.ftup ds) S1 := by
  unfold lTupF
  rw [h, bind_ok, if_pos (Nat.le_trans hl (by decide))]
theorem callK0_ok {m : Nat} {g : F} {pk : List Nat} {tk : LA} {ρ : Ev} {S S1 : Sto} {es : List D} {r : R D} (h : tk ρ S = .ok es S1) (hl : es.length = m) (h2 : g (pick pk es) S1 = r) : lCallK 0 m g pk [] aNil tk ρ S = r := by
  unfold lCallK
  show ((R.ok ([] : List D) S).bind _) = _
  rw [bind_ok, h, bind_ok]
  unfold kwF
  rw [if_pos ⟨rfl, hl⟩]
  simpa using h2
theorem mkK_ok {n : Nat} {gm : F} {tk : LA} {ρ : Ev} {S S1 : Sto} {es : List D} {r : R D} (h : tk ρ S = .ok es S1) (hl : es.length = n) (h2 : gm es S1 = r) : ((tk ρ S).bind fun es S2 => kwM n gm es S2) = r := by
  rw [h, bind_ok]
  unfold kwM
  rw [if_pos hl]
  exact h2
theorem methK_ok {C : Addr} {mn : Str} {m : Nat} {g : F} {pk : List Nat} {lo : LE} {tk : LA} {ρ : Ev} {S S0 S1 : Sto} {d : D} {es : List D} {r : R D} (h : lo ρ S = .ok d S0) (hc : recv C mn S0 d = true) (h1 : tk ρ S0 = .ok es S1) (hl : es.length = m) (h2 : g (pick pk (d :: es)) S1 = r) : lMethK C mn m g pk lo tk ρ S = r := by
  unfold lMethK
  rw [h, bind_ok, if_pos hc, h1, bind_ok, if_pos hl]
  exact h2
theorem asgL_ok {g : GT} {le : LE} {ρ ρ1 : Ev} {S S1 : Sto} {d : D} (h : le ρ S = .ok d S1) (hg : g d ρ = some ρ1) : lAsg g le ρ S = .ok (.nx ρ1) S1 := asg_ok h hg
theorem own_cr {C : Addr} {S : Sto} {ms bs ys : List Pr} (h : GoodC ms bs ys) : gOwnEq C (tsCi C) (gpCi C) S (crD C ms bs ys) (crD C ms bs ys) = some (.bl true) := by
  have e : gpCi C S (crD C ms bs ys) (crD C ms bs ys) = some (.bl true) := gpCi_of h
  unfold gOwnEq
  show (if C = C then (if Tg.obj C ∈ tsCi C then gpCi C S (crD C ms bs ys) (crD C ms bs ys) else none) else none) = _
  rw [if_pos rfl, if_pos (show Tg.obj C ∈ tsCi C from List.mem_singleton.mpr rfl), e]
theorem eq_tstrs {S : Sto} {as : List Str} (ha : ∀ y ∈ as, PyData.strOk y = true) : gEq S (.tup (as.map D.str)) (.tup (as.map D.str)) = some (.bl true) := by
  have e1 : toPD (.tup (as.map D.str)) = some (.tuple (as.map PyData.str)) := by simp [toPD, K59.toPDs_str]
  have sh : SeqAt.shaped (.tuple (as.map PyData.str)) = true := by
    unfold SeqAt.shaped
    rw [Bool.and_eq_true]
    refine ⟨K59.canLay_str ha, decide_eq_true ?_⟩
    have h2 := MP.depth_strs as
    simp only [PyData.depth, h2]
    omega
  have e : eqP S (.tup (as.map D.str)) (.tup (as.map D.str)) = some true := by
    unfold eqP
    dsimp only [vw]
    rw [e1]
    show (if SeqAt.shaped (.tuple (as.map PyData.str)) = true ∧ SeqAt.shaped (.tuple (as.map PyData.str)) = true then some (PyData.eqv (.tuple (as.map PyData.str)) (.tuple (as.map PyData.str))) else none) = _
    rw [if_pos ⟨sh, sh⟩]
    simp [PyData.eqv, eqvAll_strs]
  unfold gEq eqD
  rw [e]
  rfl
theorem ne_row {S : Sto} {b c : Str} (hb : nm b = true) (hc : nm c = true) : gNe S (.tup [.tup [.str b, .str c, .str "bar"]]) (.tup [.tup [.str b, .str c, .str "bar"]]) = some (.bl false) := by
  obtain ⟨p, hp⟩ : ∃ p, p = PyData.tuple [.tuple [.str b, .str c, .str "bar"]] := ⟨_, rfl⟩
  have e1 : toPD (.tup [.tup [.str b, .str c, .str "bar"]]) = some p := by rw [hp]; rfl
  have sh : SeqAt.shaped p = true := by
    rw [hp]
    unfold SeqAt.shaped
    rw [Bool.and_eq_true]
    have o : PyData.strOk "bar" = true := by kernel_rfl
    refine ⟨by simp [PyData.canLay0, PyData.canLayAll0, nm_ok hb, nm_ok hc, o], decide_eq_true ?_⟩
    simp only [PyData.depth, PyData.depthAll]
    omega
  have ev : PyData.eqv p p = true := by rw [hp]; simp [PyData.eqv, PyData.eqvAll]
  have e : eqP S (.tup [.tup [.str b, .str c, .str "bar"]]) (.tup [.tup [.str b, .str c, .str "bar"]]) = some true := by
    unfold eqP
    dsimp only [vw]
    rw [e1]
    show (if SeqAt.shaped p = true ∧ SeqAt.shaped p = true then some (PyData.eqv p p) else none) = _
    rw [if_pos ⟨sh, sh⟩, ev]
  unfold gNe eqD
  rw [e]
  rfl
theorem ne_told {S : Sto} : gNe S (.lst [.str "self", .str "house", .str "bar", .str "past", .non]) (.lst [.str "self", .str "house", .str "bar", .str "past", .non]) = some (.bl false) := by
  have e1 : toPD (.lst [.str "self", .str "house", .str "bar", .str "past", .non]) = some (.list [.str "self", .str "house", .str "bar", .str "past", .none]) := by rfl
  have sh : SeqAt.shaped (.list [.str "self", .str "house", .str "bar", .str "past", .none]) = true := by kernel_rfl
  have ev : PyData.eqv (.list [.str "self", .str "house", .str "bar", .str "past", .none]) (.list [.str "self", .str "house", .str "bar", .str "past", .none]) = true := by kernel_rfl
  have e : eqP S (.lst [.str "self", .str "house", .str "bar", .str "past", .non]) (.lst [.str "self", .str "house", .str "bar", .str "past", .non]) = some true := by
    unfold eqP
    dsimp only [vw]
    rw [e1]
    show (if _ ∧ _ then some (PyData.eqv _ _) else none) = _
    rw [if_pos ⟨sh, sh⟩, ev]
  unfold gNe eqD
  rw [e]
  rfl
/-- three names, rising -/
structure Thr (a b c : Str) : Prop where
  ha : nm a = true
  hb : nm b = true
  hc : nm c = true
  ab : slt a b = true
  bc : slt b c = true
theorem Thr.ac {a b c : Str} (h : Thr a b c) : slt a c = true := slt_trans h.ab h.bc
theorem Thr.nab {a b c : Str} (h : Thr a b c) : a ≠ b := slt_ne h.ab
theorem Thr.nbc {a b c : Str} (h : Thr a b c) : b ≠ c := slt_ne h.bc
theorem Thr.nac {a b c : Str} (h : Thr a b c) : a ≠ c := slt_ne h.ac
theorem slt_not {a b : Str} (h : slt a b = true) : slt b a = false := by
  rw [slt_tri (Ne.symm (slt_ne h)), h]
  rfl
theorem nm_h : nm "h" = true := by decide
def mA (a b c : Str) : List Pr := [(a, "h"), (b, "h"), (c, "")]
theorem gA {a b c : Str} (h : Thr a b c) : ∀ p ∈ mA a b c, gdP p := fun p hp => by
  simp only [mA, List.mem_cons, List.not_mem_nil, or_false] at hp
  rcases hp with rfl | rfl | rfl
  · exact ⟨h.ha, .inr nm_h⟩
  · exact ⟨h.hb, .inr nm_h⟩
  · exact ⟨h.hc, .inl rfl⟩
theorem nd3 {a b c : Str} (h : Thr a b c) : [a, b, c].Nodup := by
  simp [h.nab, h.nac, h.nbc]
theorem goodA {a b c : Str} (h : Thr a b c) : GoodC (mA a b c) [(a, c)] [(c, b)] where
  lm := by simp [mA]
  nd := nd3 h
  lb := by simp
  nb := by simp
  ly := by simp
  gm := gA h
  gb := fun p hp => by rw [List.mem_singleton.mp hp]; exact ⟨h.ha, h.hc⟩
  gy := fun p hp => by rw [List.mem_singleton.mp hp]; exact ⟨h.hc, h.hb⟩
theorem rsA1 {a b c : Str} : rsn [(a, c)] [(c, b)] (a, "h") (a, "h") = .str "self" := if_pos rfl
theorem rsA2 {a b c : Str} (h : Thr a b c) : rsn [(a, c)] [(c, b)] (a, "h") (b, "h") = .str "house" := by
  unfold rsn
  rw [if_neg h.nab, if_pos ⟨show ("h" : Str) ≠ "" by decide, rfl⟩]
theorem rsA3 {a b c : Str} (h : Thr a b c) : rsn [(a, c)] [(c, b)] (a, "h") (c, "") = .str "bar" := by
  unfold rsn
  rw [if_neg h.nac, if_neg (fun z => absurd z.2 (show ¬ ("h" : Str) = "" by decide)), if_pos (List.mem_singleton.mpr rfl)]
theorem rsA4 {a b c : Str} (h : Thr a b c) : rsn [(a, c)] [(c, b)] (c, "") (b, "h") = .str "past" := by
  unfold rsn
  rw [if_neg (Ne.symm h.nbc), if_neg (fun z => z.1 rfl), if_neg (fun z => h.nac (by
    have e := List.mem_singleton.mp z
    injection e with e1 e2
    exact e1.symm)), if_pos (List.mem_singleton.mpr rfl)]
theorem rsA5 {a b c : Str} (h : Thr a b c) : rsn [(a, c)] [(c, b)] (b, "h") (c, "") = .non := by
  unfold rsn
  rw [if_neg h.nbc, if_neg (fun z => absurd z.2 (show ¬ ("h" : Str) = "" by decide)), if_neg (fun z => h.nab (by
    have e := List.mem_singleton.mp z
    injection e with e1 e2
    exact e1.symm)), if_neg (fun z => h.nbc (by
    have e := List.mem_singleton.mp z
    injection e with e1 e2))]
theorem rsA6 {a b c : Str} (h : Thr a b c) : rsn [(a, c)] [(c, b)] (c, "") (a, "h") = .non := by
  unfold rsn
  rw [if_neg (Ne.symm h.nac), if_neg (fun z => z.1 rfl), if_neg (fun z => h.nac (by
    have e := List.mem_singleton.mp z
    injection e with e1 e2)), if_neg (fun z => h.nab (by
    have e := List.mem_singleton.mp z
    injection e with e1 e2))]
theorem takA {a b c : Str} (h : Thr a b c) : ((mA a b c).filter fun q => isNonD (rsn [(a, c)] [(c, b)] (c, "") q)) = ([(a, "h")] : List Pr) := by
  have e1 := rsA6 h
  have e2 := rsA4 h
  have e3 : rsn [(a, c)] [(c, b)] (c, "") (c, "") = .str "self" := if_pos rfl
  unfold mA
  rw [List.filter_cons, e1, if_pos (show isNonD D.non = true from rfl), List.filter_cons, e2, if_neg (by decide), List.filter_cons, e3, if_neg (by decide), List.filter_nil]
theorem givA {a b c : Str} (h : Thr a b c) : ((mA a b c).filter fun q => isNonD (rsn [(a, c)] [(c, b)] q (c, ""))) = ([(b, "h")] : List Pr) := by
  have e1 := rsA3 h
  have e2 := rsA5 h
  have e3 : rsn [(a, c)] [(c, b)] (c, "") (c, "") = .str "self" := if_pos rfl
  unfold mA
  rw [List.filter_cons, e1, if_neg (by decide), List.filter_cons, e2, if_pos (show isNonD D.non = true from rfl), List.filter_cons, e3, if_neg (by decide), List.filter_nil]
def SCR (g : F) : Prop := ∀ (S : Sto) (a b c : Str), Thr a b c → g [.str a, .str b, .str c] S = .ok (.bl true) S
section
variable {P : Program} {w : World} {K : PySem.W.Frag} {mg : Str → Option Value} {base : Heap}
theorem ok_cright (T : T10 K mg) : ∃ g, FnL P w K mg base 6 T.f__law_circle_right T.fd__law_circle_right ["_law_a", "_law_b", "_law_c"] g ∧ SCR g := by
  obtain ⟨gi, Fn_Circle___init__, le_Circle⟩ := ok_cinit (P := P) (w := w) (base := base) T
  obtain ⟨gh, Fn_Circle_house_of, Sh⟩ := ok_house (P := P) (w := w) (base := base) T
  obtain ⟨gr, Fn_Circle_reason, Sr⟩ := ok_reason (P := P) (w := w) (base := base) T
  obtain ⟨gt, Fn_Circle_takers, St⟩ := ok_takers (P := P) (w := w) (base := base) T
  obtain ⟨gg, Fn_Circle_givers, Sg⟩ := ok_givers (P := P) (w := w) (base := base) T
  obtain ⟨gc, Fn_is_circle, Sc⟩ := ok_circle (P := P) (w := w) (base := base) T
  have Fn_Circle___eq__ := ok_ceq (P := P) (w := w) (base := base) T
  obtain ⟨ds3, dC3, bC3⟩ := T.b3
  have kbC4 := T.k4
  have kdC4 : Dfl K [] [] [] := dfl_nil
  refine ⟨_, Fun.okL T.F__law_circle_right sc__law_circle_right fun cdv A outer s H E hr =>
(pssl_cons (psl_par3 (i := 3) (j := 4) (l := 5) rfl sc__law_circle_right.nd (pal_cons (pel_tupF (pal_cons (pel_tup (pal_cons (pel_var (i := 0)) (pal_cons pel_str pal_nil))) (pal_cons (pel_tup (pal_cons (pel_var (i := 1)) (pal_cons pel_str pal_nil))) (pal_cons (pel_tup (pal_cons (pel_var (i := 2)) (pal_cons pel_str pal_nil))) pal_nil)))) (pal_cons (pel_tup (pal_cons (pel_tup (pal_cons (pel_var (i := 0)) (pal_cons (pel_var (i := 2)) pal_nil))) pal_nil)) (pal_cons (pel_tup (pal_cons (pel_tup (pal_cons (pel_tup (pal_cons (pel_var (i := 2)) (pal_cons (pel_var (i := 1)) pal_nil))) pal_nil)) pal_nil)) pal_nil))))
  (pssl_cons (psl_if (ptl_cmp opl_notB (pel_callKw0 (ks := ["gap", "past", "bars", "members"]) Fn_is_circle (hr.mono (by decide)) rfl T.mg_is_circle T.F_is_circle.kp T.kw_is_circle dfl_nil (pkl_cons pel_int (pkl_cons (pel_var (i := 5)) (pkl_cons (pel_var (i := 4)) (pkl_cons (pel_var (i := 3)) pkl_nil))))) pel_bl) (pssl_one (psl_ret pel_bl)) pssl_nil)
  (pssl_cons (psl_if (ptl_cmp opl_notB (pel_callKw0 (ks := ["gap", "past", "bars", "members"]) Fn_is_circle (hr.mono (by decide)) rfl T.mg_is_circle T.F_is_circle.kp T.kw_is_circle dfl_nil (pkl_cons pel_int (pkl_cons (pel_var (i := 5)) (pkl_cons (pel_var (i := 4)) (pkl_cons (pel_revF (pel_var (i := 3))) pkl_nil))))) pel_bl) (pssl_one (psl_ret pel_bl)) pssl_nil)
  (pssl_cons (psl_set (i := 6) sc__law_circle_right.nd (pel_makeKw0 (ks := ["gap", "past", "bars", "members"]) T.mk_Circle Fn_Circle___init__ (hr.mono (by decide)) rfl T.mg_Circle kbC4 kdC4 (mk4_le le_Circle) (pkl_cons pel_int (pkl_cons (pel_var (i := 5)) (pkl_cons (pel_var (i := 4)) (pkl_cons (pel_var (i := 3)) pkl_nil))))))
  (pssl_cons (psl_if (PWL.pt (pwl_or (ptl_not (ptl_cmp (opl_ownEq ⟨⟨1, _, _, _, Fn_Circle___eq__, hr.mono (by decide), T.b_Circle___eq__, rfl, T.a_Circle___eq__, T.i_Circle___eq__⟩, T.fst_Circle⟩) (pel_var (i := 6)) (pel_make (n := 4) T.mk_Circle Fn_Circle___init__ le_Circle (hr.mono (by decide)) rfl T.mg_Circle bC3 dC3 (pal_cons (pel_var (i := 3)) (pal_cons (pel_var (i := 4)) (pal_cons (pel_var (i := 5)) pal_nil)))))) (pwl_or1 (ptl_cmp (opl_ne hr.units) (pel_methK (ks := ["name"]) T.cl_Circle T.mt_Circle_house_of Fn_Circle_house_of (hr.mono (by decide)) T.kw_Circle_house_of_name (pel_var (i := 6)) (pkl_cons (pel_var (i := 1)) pkl_nil)) pel_str)))) (pssl_one (psl_ret pel_bl)) pssl_nil)
  (pssl_cons (psl_set (i := 7) sc__law_circle_right.nd (pel_lst (pal_cons (pel_methK (ks := ["taker", "giver"]) T.cl_Circle T.mt_Circle_reason Fn_Circle_reason (hr.mono (by decide)) T.kw_Circle_reason_taker_giver (pel_var (i := 6)) (pkl_cons (pel_var (i := 0)) (pkl_cons (pel_var (i := 0)) pkl_nil))) (pal_cons (pel_methK (ks := ["giver", "taker"]) T.cl_Circle T.mt_Circle_reason Fn_Circle_reason (hr.mono (by decide)) T.kw_Circle_reason_giver_taker (pel_var (i := 6)) (pkl_cons (pel_var (i := 0)) (pkl_cons (pel_var (i := 1)) pkl_nil))) (pal_cons (pel_methK (ks := ["taker", "giver"]) T.cl_Circle T.mt_Circle_reason Fn_Circle_reason (hr.mono (by decide)) T.kw_Circle_reason_taker_giver (pel_var (i := 6)) (pkl_cons (pel_var (i := 2)) (pkl_cons (pel_var (i := 0)) pkl_nil))) pal_nil)))))
  (pssl_cons (psl_set (i := 7) sc__law_circle_right.nd (pel_op opl_add2 (pel_var (i := 7)) (pel_lst (pal_cons (pel_methK (ks := ["giver", "taker"]) T.cl_Circle T.mt_Circle_reason Fn_Circle_reason (hr.mono (by decide)) T.kw_Circle_reason_giver_taker (pel_var (i := 6)) (pkl_cons (pel_var (i := 2)) (pkl_cons (pel_var (i := 1)) pkl_nil))) (pal_cons (pel_methK (ks := ["taker", "giver"]) T.cl_Circle T.mt_Circle_reason Fn_Circle_reason (hr.mono (by decide)) T.kw_Circle_reason_taker_giver (pel_var (i := 6)) (pkl_cons (pel_var (i := 2)) (pkl_cons (pel_var (i := 1)) pkl_nil))) pal_nil)))))
  (pssl_cons (psl_if (ptl_cmp (opl_ne hr.units) (pel_var (i := 7)) (pel_lst (pal_cons pel_str (pal_cons pel_str (pal_cons pel_str (pal_cons pel_str (pal_cons pel_non pal_nil))))))) (pssl_one (psl_ret pel_bl)) pssl_nil)
  (pssl_one (psl_ret (pel_and (pel_cmp (opl_eq hr.units) (pel_methK (ks := ["giver"]) T.cl_Circle T.mt_Circle_takers Fn_Circle_takers (hr.mono (by decide)) T.kw_Circle_takers_giver (pel_var (i := 6)) (pkl_cons (pel_var (i := 2)) pkl_nil)) (pel_tup (pal_cons (pel_var (i := 0)) pal_nil))) (pel_one (pel_cmp (opl_eq hr.units) (pel_methK (ks := ["taker"]) T.cl_Circle T.mt_Circle_givers Fn_Circle_givers (hr.mono (by decide)) T.kw_Circle_givers_taker (pel_var (i := 6)) (pkl_cons (pel_var (i := 2)) pkl_nil)) (pel_tup (pal_cons (pel_var (i := 1)) pal_nil))))))))))))))), ?_⟩
  intro S a b c h
  have hg := goodA h
  have i1 := Sc S true (mA a b c) [(a, c)] [(c, b)] (by simp [mA]) (gA h) (by simp) hg.gb rfl (by simp) hg.gy rfl
  have i2 := Sc S false (mA a b c).reverse [(a, c)] [(c, b)] (by simp [mA]) (fun p hp => gA h p (List.mem_reverse.mp hp)) (by simp) hg.gb rfl (by simp) hg.gy rfl
  rw [show riseS (givs (mA a b c)) = true by show (slt a b && (slt b c && true)) = true; rw [h.ab, h.bc]; rfl] at i1
  rw [show riseS (givs (mA a b c).reverse) = false by show (slt c b && (slt b a && true)) = false; rw [slt_not h.bc]; rfl] at i2
  have mka : crF T.C_Circle [.ftup (psD (mA a b c)), .tup (psD [(a, c)]), pst [(c, b)], .int 1] S = .ok (crD T.C_Circle (mA a b c) [(a, c)] [(c, b)]) S := crF_of hg ⟨_, _, rfl, .inl rfl, .inl rfl⟩
  have h1 := Sh S (mA a b c) [(a, c)] [(c, b)] (b, "h") hg.nd (by simp [mA])
  have r1 := Sr S (mA a b c) [(a, c)] [(c, b)] (a, "h") (a, "h") hg.nd (by simp [mA]) (by simp [mA])
  have r2 := Sr S (mA a b c) [(a, c)] [(c, b)] (a, "h") (b, "h") hg.nd (by simp [mA]) (by simp [mA])
  have r3 := Sr S (mA a b c) [(a, c)] [(c, b)] (a, "h") (c, "") hg.nd (by simp [mA]) (by simp [mA])
  have r4 := Sr S (mA a b c) [(a, c)] [(c, b)] (c, "") (b, "h") hg.nd (by simp [mA]) (by simp [mA])
  have r5 := Sr S (mA a b c) [(a, c)] [(c, b)] (b, "h") (c, "") hg.nd (by simp [mA]) (by simp [mA])
  rw [rsA1] at r1
  rw [rsA2 h] at r2
  rw [rsA3 h] at r3
  rw [rsA4 h] at r4
  rw [rsA5 h] at r5
  have t1 := St S (mA a b c) [(a, c)] [(c, b)] (c, "") hg.nd (by simp [mA]) (by simp [mA])
  have t2 := Sg S (mA a b c) [(a, c)] [(c, b)] (c, "") hg.nd (by simp [mA]) (by simp [mA])
  rw [takA h] at t1
  rw [givA h] at t2
  have eqa : gEq S (.tup [.str a]) (.tup [.str a]) = some (.bl true) := eq_tstrs (as := [a]) fun y hy => by rw [List.mem_singleton.mp hy]; exact nm_ok h.ha
  have eqb : gEq S (.tup [.str b]) (.tup [.str b]) = some (.bl true) := eq_tstrs (as := [b]) fun y hy => by rw [List.mem_singleton.mp hy]; exact nm_ok h.hb
  have own := own_cr (C := T.C_Circle) (S := S) hg
  have neT := ne_told (S := S)
  obtain ⟨box, hbox⟩ : ∃ box, box = crD T.C_Circle (mA a b c) [(a, c)] [(c, b)] := ⟨_, rfl⟩
  have rc : ∀ mn : Str, ((crFs [] [] []).map (·.1)).contains mn = false → recv T.C_Circle mn S box = true := fun mn hm => by rw [hbox]; exact recv_cr hm
  rw [← hbox] at mka h1 r1 r2 r3 r4 r5 t1 t2 own
  have mk3 : ∀ ρ : Ev, ρ[3]? = some (some (.ftup (psD (mA a b c)))) → ρ[4]? = some (some (.tup (psD [(a, c)]))) → ρ[5]? = some (some (pst [(c, b)])) → lCall 4 (crF T.C_Circle) [.int 1] (aCons (lVar 3) (aCons (lVar 4) (aCons (lVar 5) aNil))) ρ S = .ok box S := fun ρ h3 h4 h5 =>
    call_ok (ds := [.ftup (psD (mA a b c)), .tup (psD [(a, c)]), pst [(c, b)]]) (acons_ok (by unfold lVar; rw [h3]) (acons_ok (by unfold lVar; rw [h4]) (acons_ok (by unfold lVar; rw [h5]) rfl))) rfl mka
  exact body_rt (seq_nx (par3_ok (acons_ok (tupF_ok (acons_ok (tup_ok (acons_ok rfl (acons_ok rfl rfl)) (by simp)) (acons_ok (tup_ok (acons_ok rfl (acons_ok rfl rfl)) (by simp)) (acons_ok (tup_ok (acons_ok rfl (acons_ok rfl rfl)) (by simp)) rfl))) (by simp)) (acons_ok (tup_ok (acons_ok (tup_ok (acons_ok rfl (acons_ok rfl rfl)) (by simp)) rfl) (by simp)) (acons_ok (tup_ok (acons_ok (tup_ok (acons_ok (tup_ok (acons_ok rfl (acons_ok rfl rfl)) (by simp)) rfl) (by simp)) rfl) (by simp)) rfl))))
    (seq_nx (if_ff (tru_b (bin_ok (callK0_ok (acons_ok rfl (acons_ok rfl (acons_ok rfl (acons_ok rfl rfl)))) rfl i1) rfl rfl) rfl) rfl)
    (seq_nx (if_ff (tru_b (bin_ok (callK0_ok (acons_ok rfl (acons_ok rfl (acons_ok rfl (acons_ok (un_ok rfl rfl) rfl)))) rfl i2) rfl rfl) rfl) rfl)
    (seq_nx (set_ok (mkK_ok (acons_ok rfl (acons_ok rfl (acons_ok rfl (acons_ok rfl rfl)))) rfl mka))
    (seq_nx (if_ff (or_ff (not_ok (b := true) (tru_b (bin_ok rfl (mk3 _ rfl rfl rfl) own) rfl)) (tru_b (bin_ok (methK_ok rfl (rc _ (by decide)) (acons_ok rfl rfl) rfl h1) rfl ne_str) rfl)) rfl)
    (seq_nx (set_ok (lst_ok (acons_ok (methK_ok rfl (rc _ (by decide)) (acons_ok rfl (acons_ok rfl rfl)) rfl r1) (acons_ok (methK_ok rfl (rc _ (by decide)) (acons_ok rfl (acons_ok rfl rfl)) rfl r2) (acons_ok (methK_ok rfl (rc _ (by decide)) (acons_ok rfl (acons_ok rfl rfl)) rfl r3) rfl))) (by simp)))
    (seq_nx (set_ok (bin_ok rfl (lst_ok (acons_ok (methK_ok rfl (rc _ (by decide)) (acons_ok rfl (acons_ok rfl rfl)) rfl r4) (acons_ok (methK_ok rfl (rc _ (by decide)) (acons_ok rfl (acons_ok rfl rfl)) rfl r5) rfl)) (by simp)) (show gAdd2 S (.lst [.str "self", .str "house", .str "bar"]) (.lst [.str "past", .non]) = some (.lst [.str "self", .str "house", .str "bar", .str "past", .non]) from catL rfl rfl rfl (by decide))))
    (seq_nx (if_ff (tru_b (bin_ok rfl (lst_ok (acons_ok rfl (acons_ok rfl (acons_ok rfl (acons_ok rfl (acons_ok rfl rfl))))) (by simp)) neT) rfl) rfl)
    (ret_ok (andv_tt (d := .bl true) (bin_ok (methK_ok rfl (rc _ (by decide)) (acons_ok rfl rfl) rfl t1) (tup_ok (acons_ok rfl rfl) (by simp)) eqa) rfl (bin_ok (methK_ok rfl (rc _ (by decide)) (acons_ok rfl rfl) rfl t2) (tup_ok (acons_ok rfl rfl) (by simp)) eqb)))))))))))
end
end K10

namespace K10
open PySem PySem.Spec PyProof.Rows L2 MP
/-! ### the draws -/

def P1 : Int := 2305843009213693951
def P2 : Int := 2305843009213693921
def P3 : Int := 2305843009213693907
def SBlend (g : F) : Prop := ∀ (S : Sto) (a t : Int), 0 ≤ t → t < 10 ^ 30 → ∃ v, g [.int a, .int t] S = .ok (.int v) S ∧ 0 ≤ v ∧ v < 10 ^ 30
/-- the pot at j, its script at i -/
def PotAt (j i : Nat) (n : Int) (S : Sto) : Prop := ∃ (own : List Int) (dig mix cnt : Int), i ≠ j ∧ S[j]? = some (.lst [.ref i, .int dig, .int mix, .int cnt]) ∧ S[i]? = some (.lst (own.map D.int)) ∧ own.length ≤ 63 ∧ 0 ≤ dig ∧ 0 ≤ cnt ∧ cnt ≤ n
def Keep2 (j i : Nat) (S S' : Sto) : Prop := S.length ≤ S'.length ∧ ∀ k, k ≠ j → k ≠ i → k < S.length → S'[k]? = S[k]?
theorem Keep2.refl {j i : Nat} {S : Sto} : Keep2 j i S S := ⟨Nat.le_refl _, fun _ _ _ _ => rfl⟩
theorem Keep2.trans {j i : Nat} {S S1 S2 : Sto} (h1 : Keep2 j i S S1) (h2 : Keep2 j i S1 S2) : Keep2 j i S S2 := ⟨Nat.le_trans h1.1 h2.1, fun k hk hi hl => (h2.2 k hk hi (Nat.lt_of_lt_of_le hl h1.1)).trans (h1.2 k hk hi hl)⟩
theorem Keep2.setj {j i : Nat} {S : Sto} {o : O} : Keep2 j i S (S.set j o) := ⟨by simp, fun k hk _ _ => List.getElem?_set_ne (Ne.symm hk)⟩
theorem Keep2.seti {j i : Nat} {S : Sto} {o : O} : Keep2 j i S (S.set i o) := ⟨by simp, fun k _ hk _ => List.getElem?_set_ne (Ne.symm hk)⟩
theorem Keep2.push {j i : Nat} {S : Sto} {o : O} : Keep2 j i S (S ++ [o]) := ⟨by simp, fun k _ _ hl => List.getElem?_append_left hl⟩
theorem Keep2.get {j i k : Nat} {S S' : Sto} {o : O} (h : Keep2 j i S S') (hk : S[k]? = some o) (hj : k ≠ j) (hi : k ≠ i) : S'[k]? = some o := by
  rw [h.2 k hj hi (List.getElem?_eq_some_iff.mp hk).1]; exact hk
theorem Keep2.set_new {j i k : Nat} {S S1 : Sto} {o : O} (h : Keep2 j i S S1) (hk : S.length ≤ k) : Keep2 j i S (S1.set k o) := ⟨by rw [List.length_set]; exact h.1, fun m hm hi hl => by
  rw [List.getElem?_set_ne (by omega)]
  exact h.2 m hm hi hl⟩
theorem PotAt.mono {j i : Nat} {n m : Int} {S : Sto} (h : PotAt j i n S) (hm : n ≤ m) : PotAt j i m S := by
  obtain ⟨a, b, c, e, h1, h2, h3, h4, h5, h6, h7⟩ := h
  exact ⟨a, b, c, e, h1, h2, h3, h4, h5, h6, by omega⟩
theorem PotAt.lt {j i : Nat} {n : Int} {S : Sto} (h : PotAt j i n S) : j < S.length ∧ i < S.length := by
  obtain ⟨a, b, c, e, h1, h2, h3, _⟩ := h
  exact ⟨(List.getElem?_eq_some_iff.mp h2).1, (List.getElem?_eq_some_iff.mp h3).1⟩
theorem PotAt.push {j i : Nat} {n : Int} {S : Sto} {o : O} (h : PotAt j i n S) : PotAt j i n (S ++ [o]) := by
  have hl := h.lt
  obtain ⟨a, b, c, e, h1, h2, h3, h4⟩ := h
  exact ⟨a, b, c, e, h1, by rw [List.getElem?_append_left hl.1]; exact h2, by rw [List.getElem?_append_left hl.2]; exact h3, h4⟩
theorem PotAt.set {j i k : Nat} {n : Int} {S : Sto} {o : O} (h : PotAt j i n S) (hj : k ≠ j) (hi : k ≠ i) : PotAt j i n (S.set k o) := by
  obtain ⟨a, b, c, e, h1, h2, h3, h4⟩ := h
  exact ⟨a, b, c, e, h1, by rw [List.getElem?_set_ne hj]; exact h2, by rw [List.getElem?_set_ne hi]; exact h3, h4⟩
def SPot (g : F) : Prop := ∀ (S : Sto) (ns : List Int), ns.length ≤ 63 → ∃ j i S', g [.lst (ns.map D.int)] S = .ok (.ref j) S' ∧ PotAt j i 0 S'
def SDraw (g : F) : Prop := ∀ (n : Int) (S : Sto) (j i : Nat) (wd : Int), PotAt j i n S → n < 10 ^ 29 → 0 < wd → wd < 10 ^ 200 → ∃ v S', g [.ref j, .int wd] S = .ok (.int v) S' ∧ 0 ≤ v ∧ v < wd ∧ PotAt j i (n + 1) S' ∧ Keep2 j i S S'
def SPick (g : F) : Prop := ∀ (n : Int) (S : Sto) (j i : Nat) (d : D) (l : Int) (Q : D → Prop), PotAt j i n S → n < 10 ^ 29 → gLen S [d] = some (.int l) → 0 < l → l < 10 ^ 6 → (∀ S' v, Keep2 j i S S' → 0 ≤ v → v < l → ∃ y, gIx S' d (.int v) = some y ∧ Q y) → ∃ y S', g [.ref j, d] S = .ok y S' ∧ Q y ∧ PotAt j i (n + 1) S' ∧ Keep2 j i S S'



theorem lx0 {j : Nat} {xs : List D} {S : Sto} {k : Int} {d : D} {ρ : Ev} (h : S[j]? = some (.lst xs)) (hd : atI xs k = some d) (hv : lVar 0 ρ S = .ok (.ref j) S) : lBin gIx (lVar 0) (lC (.int k)) ρ S = .ok d S := bin_ok hv rfl (ix_ref h hd)
theorem mulx_ii {S : Sto} {i j : Int} (h : Sm i) (h' : Sm j) : gMulX S (.int i) (.int j) = some (.int (i * j)) := by
  unfold gMulX
  rw [mul_ii h h']
  rfl
section
variable {P : Program} {w : World} {K : PySem.W.Frag} {mg : Str → Option Value} {base : Heap}
theorem ok_blend (T : T10 K mg) : ∃ g, FnL P w K mg base 1 T.f__law_blend T.fd__law_blend ["_law_number", "_law_turn"] g ∧ SBlend g := by
  refine ⟨_, Fun.okL T.F__law_blend sc__law_blend fun cdv A outer s H E hr =>
(pssl_cons (psl_set (i := 2) sc__law_blend.nd (pel_op opl_add2 (pel_op opl_add2 (pel_op opl_add2 (pel_op opl_mod (pel_var (i := 0)) pel_int) (pel_op opl_mulX (pel_op opl_mulX pel_int (pel_var (i := 1))) (pel_var (i := 1)))) (pel_op opl_mulX pel_int (pel_var (i := 1)))) pel_int))
  (pssl_cons (psl_set (i := 3) sc__law_blend.nd (pel_op opl_mod (pel_op opl_mulX (pel_var (i := 2)) pel_int) pel_int))
  (pssl_one (psl_ret (pel_op opl_mod (pel_op opl_add2 (pel_op opl_mulX (pel_var (i := 3)) (pel_op opl_add2 (pel_op opl_mod (pel_var (i := 3)) pel_int) (pel_op opl_mulX pel_int (pel_var (i := 1))))) (pel_op opl_div (pel_var (i := 3)) pel_int)) pel_int))))), ?_⟩
  intro S a t t0 t1
  have bb : (0 : Int) < 10 ^ 30 ∧ (10 : Int) ^ 30 < 10 ^ 100 ∧ (104729 : Int) * 10 ^ 30 < 10 ^ 100 ∧ (17 : Int) * 10 ^ 30 < 10 ^ 90 ∧ (99991 : Int) * 10 ^ 30 + 1000003 < 10 ^ 100 ∧ (104729 : Int) * 10 ^ 30 * 10 ^ 30 + 10 ^ 30 + 10 ^ 90 + 10 ^ 90 + 5 < 10 ^ 100 ∧ (2305843009213693951 : Int) < 10 ^ 30 ∧ (2305843009213693921 : Int) < 10 ^ 30 ∧ (2305843009213693907 : Int) < 10 ^ 30 := by decide +kernel
  obtain ⟨bb0, bb1, bb2, bb3, bb4, bb5, bb6, bb7, bb8⟩ := bb
  have st : Sm t := sml t0 (by omega)
  have k1 : (104729 : Int) * t ≤ 104729 * 10 ^ 30 := by omega
  have k2 : (104729 : Int) * t * t ≤ 104729 * 10 ^ 30 * 10 ^ 30 := Int.le_trans (Int.mul_le_mul_of_nonneg_right k1 t0) (Int.mul_le_mul_of_nonneg_left (by omega) (by decide +kernel))
  have k3 : (0 : Int) ≤ 104729 * t * t := Int.mul_nonneg (by omega) t0
  have r0 := Int.emod_nonneg a (b := 2305843009213693951) (by decide)
  have r1 := Int.emod_lt_of_pos a (b := 2305843009213693951) (by decide)
  have g1 := set_ok (i := 2) (S := S) (ρ := [some (.int a), some (.int t), none, none]) (bin_ok (bin_ok (bin_ok (bin_ok (la := lVar 0) (lb := lC (.int 2305843009213693951)) rfl rfl (mod_ii (by decide))) (bin_ok (bin_ok (la := lC (.int 104729)) (lb := lVar 1) rfl rfl (mulx_ii (sml (by decide) (by decide +kernel)) st)) (lb := lVar 1) rfl (mulx_ii (sml (by omega) (by omega)) st)) add2_ii) (bin_ok (la := lC (.int 17)) (lb := lVar 1) rfl rfl (mulx_ii (sml (by decide) (by decide +kernel)) st)) add2_ii) (lb := lC (.int 5)) rfl add2_ii)
  have hs0 : 0 ≤ a % 2305843009213693951 + 104729 * t * t + 17 * t + 5 := by omega
  have hs1 : a % 2305843009213693951 + 104729 * t * t + 17 * t + 5 < 10 ^ 100 := by omega
  generalize a % 2305843009213693951 + 104729 * t * t + 17 * t + 5 = sd at g1 hs0 hs1
  have g2 := set_ok (i := 3) (S := S) (ρ := [some (.int a), some (.int t), some (.int sd), none]) (bin_ok (bin_ok (la := lVar 2) (lb := lC (.int 48271)) rfl rfl (mulx_ii (sml hs0 hs1) (sml (by decide) (by decide +kernel)))) (lb := lC (.int 2305843009213693921)) rfl (mod_ii (by decide)))
  have m0 := Int.emod_nonneg (sd * 48271) (b := 2305843009213693921) (by decide)
  have m1 := Int.emod_lt_of_pos (sd * 48271) (b := 2305843009213693921) (by decide)
  generalize sd * 48271 % 2305843009213693921 = mx at g2 m0 m1
  have q0 := Int.emod_nonneg mx (b := 1000003) (by decide)
  have q1 := Int.emod_lt_of_pos mx (b := 1000003) (by decide)
  have g3 := ret_ok (S := S) (ρ := [some (.int a), some (.int t), some (.int sd), some (.int mx)]) (bin_ok (bin_ok (bin_ok (la := lVar 3) rfl (bin_ok (bin_ok (la := lVar 3) (lb := lC (.int 1000003)) rfl rfl (mod_ii (by decide))) (bin_ok (la := lC (.int 99991)) (lb := lVar 1) rfl rfl (mulx_ii (sml (by decide) (by decide +kernel)) st)) add2_ii) (mulx_ii (sml m0 (by omega)) (sml (by omega) (by omega)))) (bin_ok (la := lVar 3) (lb := lC (.int 11)) rfl rfl (div_ii (by decide) (sml (by decide) (by decide +kernel)))) add2_ii) (lb := lC (.int 2305843009213693907)) rfl (mod_ii (by decide)))
  have v0 := Int.emod_nonneg (mx * (mx % 1000003 + 99991 * t) + mx / 11) (b := 2305843009213693907) (by decide)
  have v1 := Int.emod_lt_of_pos (mx * (mx % 1000003 + 99991 * t) + mx / 11) (b := 2305843009213693907) (by decide)
  exact ⟨_, body_rt (seq_nx g1 (seq_nx g2 g3)), v0, by omega⟩
theorem ok_pot (T : T10 K mg) : ∃ g, FnL P w K mg base 1 T.f__law_pot T.fd__law_pot ["_law_script"] g ∧ SPot g := by
  refine ⟨_, Fun.okL T.F__law_pot sc__law_pot fun cdv A outer s H E hr =>
(pssl_one (psl_ret (pel_lstN (pal_cons (pel_listN rfl T.n_list (by decide +kernel) (pal_cons (pel_var (i := 0)) pal_nil)) (pal_cons pel_int (pal_cons pel_int (pal_cons pel_int pal_nil))))))), ?_⟩
  intro S ns hn
  refine ⟨_, S.length, _, body_rt (ret_ok (lstN_ok (acons_ok (d := .ref S.length) (S1 := S ++ [.lst (ns.map D.int)]) rfl (acons_ok rfl (acons_ok rfl (acons_ok rfl rfl)))) (by simp))), ?_⟩
  refine ⟨ns, 0, 3, 0, by simp, last_at, ?_, hn, by omega, by omega, by omega⟩
  rw [List.getElem?_append_left (by simp)]
  exact last_at
theorem ok_draw (T : T10 K mg) : ∃ g, FnL P w K mg base 2 T.f__law_draw T.fd__law_draw ["_law_pot_here", "_law_size"] g ∧ SDraw g := by
  obtain ⟨gb, Fn__law_blend, Sb⟩ := ok_blend (P := P) (w := w) (base := base) T
  refine ⟨_, Fun.okL T.F__law_draw sc__law_draw fun cdv A outer s H E hr =>
(pssl_cons (psl_sub psetl_seq (pel_var (i := 0)) pel_int (pel_op opl_add2 (pel_ix ixl_seq (pel_var (i := 0)) pel_int) pel_int))
  (pssl_cons (psl_if (PWL.pt (pwl_and (ptl_cmp (opl_eq hr.units) (pel_ix ixl_seq (pel_var (i := 0)) pel_int) pel_int) (pwl_and1 (ptl_cmp (opl_ne hr.units) (pel_ix ixl_seq (pel_var (i := 0)) pel_int) (pel_lst pal_nil))))) (pssl_cons (psl_set (i := 2) sc__law_draw.nd (pel_popAt (pel_ix ixl_seq (pel_var (i := 0)) pel_int) pel_int))
  (pssl_cons (psl_sub psetl_seq (pel_var (i := 0)) pel_int (pel_call Fn__law_blend (hr.mono (by decide)) rfl T.mg__law_blend T.F__law_blend.kp T.b__law_blend dfl_nil (pal_cons (pel_op opl_add2 (pel_ix ixl_seq (pel_var (i := 0)) pel_int) (pel_var (i := 2))) (pal_cons (pel_callB (cl_len) rfl T.n_len (by decide +kernel) (pal_cons (pel_ix ixl_seq (pel_var (i := 0)) pel_int) pal_nil)) pal_nil))))
  (pssl_one (psl_if (ptl_cmp opl_geI (pel_callB (cl_abs) rfl T.n_abs (by decide +kernel) (pal_cons (pel_var (i := 2)) pal_nil)) (pel_op opl_pow pel_int pel_int)) (pssl_one (psl_sub psetl_seq (pel_var (i := 0)) pel_int (pel_callB (cl_abs) rfl T.n_abs (by decide +kernel) (pal_cons (pel_var (i := 2)) pal_nil)))) pssl_nil)))) pssl_nil)
  (pssl_cons (psl_if (ptl_cmp opl_gt2 (pel_ix ixl_seq (pel_var (i := 0)) pel_int) pel_int) (pssl_cons (psl_set (i := 3) sc__law_draw.nd (pel_op opl_mod (pel_ix ixl_seq (pel_var (i := 0)) pel_int) (pel_var (i := 1))))
  (pssl_cons (psl_sub psetl_seq (pel_var (i := 0)) pel_int (pel_op opl_div (pel_ix ixl_seq (pel_var (i := 0)) pel_int) (pel_var (i := 1))))
  (pssl_one (psl_ret (pel_var (i := 3)))))) pssl_nil)
  (pssl_one (psl_ret (pel_op opl_mod (pel_op opl_div (pel_call Fn__law_blend (hr.mono (by decide)) rfl T.mg__law_blend T.F__law_blend.kp T.b__law_blend dfl_nil (pal_cons (pel_ix ixl_seq (pel_var (i := 0)) pel_int) (pal_cons (pel_ix ixl_seq (pel_var (i := 0)) pel_int) pal_nil))) pel_int) (pel_var (i := 1)))))))), ?_⟩
  intro n S j i wd hp hn w0 w1
  obtain ⟨own, dig, mix, cnt, hij, hj, hi, hl, d0, c0, c1⟩ := hp
  have smw : Sm wd := Sm.of (by omega) w1 (by decide +kernel)
  have b29 : (10 : Int) ^ 29 < 10 ^ 30 := by decide +kernel
  have b1000 : (1000 : Int) < 10 ^ 30 := by decide +kernel
  -- one more draw
  have g1 : ∀ x y, lStS stSeq (lVar 0) (lC (.int 3)) (lBin gAdd2 (lBin gIx (lVar 0) (lC (.int 3))) (lC (.int 1))) [some (.ref j), some (.int wd), x, y] S = .ok (.nx [some (.ref j), some (.int wd), x, y]) (S.set j (.lst [.ref i, .int dig, .int mix, .int (cnt + 1)])) := fun x y => stS_ok (bin_ok (lx0 hj rfl rfl) rfl add2_ii) rfl rfl (sub_ok (n := 3) hj rfl)
  have hj1 := set_self (o' := .lst [.ref i, .int dig, .int mix, .int (cnt + 1)]) hj
  have hi1 : (S.set j (.lst [.ref i, .int dig, .int mix, .int (cnt + 1)]))[i]? = some (.lst (own.map D.int)) := by rw [List.getElem?_set_ne (Ne.symm hij)]; exact hi
  have k1 : Keep2 j i S (S.set j (.lst [.ref i, .int dig, .int mix, .int (cnt + 1)])) := .setj
  generalize S.set j (.lst [.ref i, .int dig, .int mix, .int (cnt + 1)]) = S1 at g1 hj1 hi1 k1
  -- a cell taken
  have key : ∃ (own' : List Int) (dig' mix' : Int) (x : Option D) (S2 : Sto), own'.length ≤ 63 ∧ 0 ≤ dig' ∧ S2[j]? = some (.lst [.ref i, .int dig', .int mix', .int (cnt + 1)]) ∧ S2[i]? = some (.lst (own'.map D.int)) ∧ Keep2 j i S1 S2 ∧
      (lIfS (MP.tAnd (tTru (lBin gEq (lBin gIx (lVar 0) (lC (.int 1))) (lC (.int 0)))) (tTru (lBin gNe (lBin gIx (lVar 0) (lC (.int 0))) (lLst aNil)))) (lSeq (lSet 2 (lBM "list" stPopAt (lBin gIx (lVar 0) (lC (.int 0))) (aCons (lC (.int 0)) aNil)))
        (lSeq (lStS stSeq (lVar 0) (lC (.int 2)) (lCall 2 gb [] (aCons (lBin gAdd2 (lBin gIx (lVar 0) (lC (.int 2))) (lVar 2)) (aCons (lCallB gLen (aCons (lBin gIx (lVar 0) (lC (.int 0))) aNil)) aNil))))
          (lIfS (tTru (lBin gGeI (lCallB gAbs (aCons (lVar 2) aNil)) (lBin gPow (lC (.int 10)) (lC (.int 18))))) (lStS stSeq (lVar 0) (lC (.int 1)) (lCallB gAbs (aCons (lVar 2) aNil))) lNext))) lNext [some (.ref j), some (.int wd), none, none] S1 = .ok (.nx [some (.ref j), some (.int wd), x, none]) S2) := by
    by_cases hd : dig = 0
    · have t1 : ∀ x, tTru (lBin gEq (lBin gIx (lVar 0) (lC (.int 1))) (lC (.int 0))) [some (.ref j), some (.int wd), x, none] S1 = .ok true S1 := fun x => tru_b (bin_ok (lx0 hj1 rfl rfl) rfl eq_ii) (decide_eq_true hd)
      have t2 : tTru (lBin gNe (lBin gIx (lVar 0) (lC (.int 0))) (lLst aNil)) [some (.ref j), some (.int wd), none, none] S1 = .ok (!own.isEmpty) S1 := tru_b (bin_ok (lx0 hj1 rfl rfl) (lst_ok rfl (by simp)) (ne_nil hi1)) rfl
      cases own with
      | nil => exact ⟨[], dig, mix, none, S1, by simp, d0, hj1, hi1, .refl, if_ff (and_tt (t1 _) t2) rfl⟩
      | cons z own =>
        have hil : i < S1.length := (List.getElem?_eq_some_iff.mp hi1).1
        simp only [List.length_cons] at hl
        -- the cell
        have p1 : lSet 2 (lBM "list" stPopAt (lBin gIx (lVar 0) (lC (.int 0))) (aCons (lC (.int 0)) aNil)) [some (.ref j), some (.int wd), none, none] S1 = .ok (.nx [some (.ref j), some (.int wd), some (.int z), none]) (S1.set i (.lst (own.map D.int))) :=
          set_ok (bm_ok (lx0 hj1 rfl rfl) (ty_lst hi1) (acons_ok rfl rfl) (pop0_ok hi1))
        have hj2 : (S1.set i (.lst (own.map D.int)))[j]? = some (.lst [.ref i, .int dig, .int mix, .int (cnt + 1)]) := by rw [List.getElem?_set_ne hij]; exact hj1
        have hi2 := set_self (o' := .lst (own.map D.int)) hi1
        have k2 : Keep2 j i S1 (S1.set i (.lst (own.map D.int))) := .seti
        generalize S1.set i (.lst (own.map D.int)) = S2 at p1 hj2 hi2 k2
        obtain ⟨v, eb, v0, v1⟩ := Sb S2 (mix + z) (own.length : Int) (by omega) (by omega)
        have hlen : gLen S2 [.ref i] = some (.int (own.length : Int)) := by
          have e : vw S2 (.ref i) = .lst (own.map D.int) := by unfold vw; dsimp only; rw [hi2]
          unfold gLen; dsimp only; rw [e]; simp
        have p2 : lStS stSeq (lVar 0) (lC (.int 2)) (lCall 2 gb [] (aCons (lBin gAdd2 (lBin gIx (lVar 0) (lC (.int 2))) (lVar 2)) (aCons (lCallB gLen (aCons (lBin gIx (lVar 0) (lC (.int 0))) aNil)) aNil))) [some (.ref j), some (.int wd), some (.int z), none] S2 = .ok (.nx [some (.ref j), some (.int wd), some (.int z), none]) (S2.set j (.lst [.ref i, .int dig, .int v, .int (cnt + 1)])) :=
          stS_ok (call_ok (acons_ok (bin_ok (lx0 hj2 rfl rfl) rfl add2_ii) (acons_ok (callb_ok (acons_ok (lx0 hj2 rfl rfl) rfl) hlen) rfl)) rfl eb) rfl rfl (sub_ok (n := 2) hj2 rfl)
        have hj3 := set_self (o' := .lst [.ref i, .int dig, .int v, .int (cnt + 1)]) hj2
        have hi3 : (S2.set j (.lst [.ref i, .int dig, .int v, .int (cnt + 1)]))[i]? = some (.lst (own.map D.int)) := by rw [List.getElem?_set_ne (Ne.symm hij)]; exact hi2
        have k3 : Keep2 j i S2 (S2.set j (.lst [.ref i, .int dig, .int v, .int (cnt + 1)])) := .setj
        generalize S2.set j (.lst [.ref i, .int dig, .int v, .int (cnt + 1)]) = S3 at p2 hj3 hi3 k3
        have habs : lCallB gAbs (aCons (lVar 2) aNil) [some (.ref j), some (.int wd), some (.int z), none] S3 = .ok (.int (if z < 0 then -z else z)) S3 := callb_ok (acons_ok rfl rfl) rfl
        by_cases hz : (10 : Int) ^ (18 : Int).toNat ≤ (if z < 0 then -z else z)
        · have p3 := stS_ok (lo := lVar 0) (li := lC (.int 1)) habs rfl rfl (sub_ok (n := 1) (d := .int (if z < 0 then -z else z)) hj3 rfl)
          have hj4 := set_self (o' := .lst [.ref i, .int (if z < 0 then -z else z), .int v, .int (cnt + 1)]) hj3
          have hi4 : (S3.set j (.lst [.ref i, .int (if z < 0 then -z else z), .int v, .int (cnt + 1)]))[i]? = some (.lst (own.map D.int)) := by rw [List.getElem?_set_ne (Ne.symm hij)]; exact hi3
          refine ⟨own, (if z < 0 then -z else z), v, some (.int z), _, by omega, by split <;> omega, hj4, hi4, (k2.trans k3).trans .setj, if_tt (and_tt (t1 _) t2) (seq_nx p1 (seq_nx p2 (if_tt (tru_b (bin_ok habs (bin_ok rfl rfl (pow_ii ⟨by decide, by decide, by decide⟩)) rfl) (decide_eq_true hz)) p3)))⟩
        · exact ⟨own, dig, v, some (.int z), _, by omega, d0, hj3, hi3, k2.trans k3, if_tt (and_tt (t1 _) t2) (seq_nx p1 (seq_nx p2 (if_ff (tru_b (bin_ok habs (bin_ok rfl rfl (pow_ii ⟨by decide, by decide, by decide⟩)) rfl) (decide_eq_false hz)) rfl)))⟩
    · exact ⟨own, dig, mix, none, S1, hl, d0, hj1, hi1, .refl, if_ff (and_ff (tru_b (bin_ok (lx0 hj1 rfl rfl) rfl eq_ii) (decide_eq_false hd))) rfl⟩
  obtain ⟨own', dig', mix', x, S2, hl', d0', hj2, hi2, k2, g2⟩ := key
  by_cases hd : 0 < dig'
  · have g3 := set_ok (i := 3) (ρ := [some (.ref j), some (.int wd), x, none]) (bin_ok (lx0 (k := 1) hj2 rfl rfl) (lb := lVar 1) rfl (mod_ii (i := dig') w0))
    have g4 := stS_ok (ρ := [some (.ref j), some (.int wd), x, some (.int (dig' % wd))]) (lo := lVar 0) (li := lC (.int 1)) (bin_ok (lx0 (k := 1) hj2 rfl rfl) (lb := lVar 1) rfl (div_ii (i := dig') w0 smw)) rfl rfl (sub_ok (n := 1) (d := .int (dig' / wd)) hj2 rfl)
    refine ⟨dig' % wd, _, body_rt (seq_nx (g1 none none) (seq_nx g2 (seq_rt (if_tt (tru_b (bin_ok (lx0 hj2 rfl rfl) rfl rfl) (decide_eq_true hd)) (seq_nx g3 (seq_nx g4 (ret_ok rfl))))))), Int.emod_nonneg _ (Int.ne_of_gt w0), Int.emod_lt_of_pos _ w0, ?_, (k1.trans k2).trans .setj⟩
    exact ⟨own', dig' / wd, mix', cnt + 1, hij, set_self hj2, by rw [List.getElem?_set_ne (Ne.symm hij)]; exact hi2, hl', Int.ediv_nonneg (by omega) (by omega), by omega, by omega⟩
  · obtain ⟨v, eb, v0, v1⟩ := Sb S2 mix' (cnt + 1) (by omega) (by omega)
    refine ⟨v / 7 % wd, S2, body_rt (seq_nx (g1 none none) (seq_nx g2 (seq_nx (if_ff (tru_b (bin_ok (lx0 hj2 rfl rfl) rfl rfl) (decide_eq_false hd)) rfl) (ret_ok (bin_ok (bin_ok (call_ok (acons_ok (lx0 hj2 rfl rfl) (acons_ok (lx0 hj2 rfl rfl) rfl)) rfl eb) rfl (div_ii (by decide) (sml (by decide) (by decide +kernel)))) rfl (mod_ii w0)))))), Int.emod_nonneg _ (Int.ne_of_gt w0), Int.emod_lt_of_pos _ w0, ?_, k1.trans k2⟩
    exact ⟨own', dig', mix', cnt + 1, hij, hj2, hi2, hl', d0', by omega, by omega⟩
end
end K10

namespace K10
open PySem PySem.Spec PyProof.Rows L2 MP TL
open K06 (riP Cd cd_of cd_repr)
open K59 (Pr nm givs taks slt isL lets nm_ok sle sorted_strs cnt_nodup slt_trans slt_irrefl)
open K59 (slt_tri slt_ne)
theorem for_invB {chk : Sto → Prop} {g : GT} {lb : LS} {ρ0 : Ev} {N : Nat} {I : Nat → Sto → Prop} (hc : ∀ S, chk S) : ∀ (items : List D) (k : Nat) (S : Sto), k + items.length = N → I k S → (∀ d ∈ items, ∀ k S, k < N → I k S → ∃ ρ1 ρ' S', g d ρ0 = some ρ1 ∧ lb ρ1 S = .ok (.nx ρ') S' ∧ wk ρ0 ρ' = ρ0 ∧ I (k + 1) S') →
    ∃ S', forG ρ0 chk g lb items ρ0 S = .ok (.nx ρ0) S' ∧ I N S'
  | [], k, S, hn, hI, _ => ⟨S, for_end (hc S), by rw [← hn]; exact hI⟩
  | d :: items, k, S, hn, hI, h => by
    simp only [List.length_cons] at hn
    obtain ⟨ρ1, ρ', S1, h1, h2, h3, h4⟩ := h d (by simp) k S (by omega) hI
    obtain ⟨S2, h5, h6⟩ := for_invB hc items (k + 1) S1 (by omega) h4 fun d hd => h d (by simp [hd])
    refine ⟨S2, ?_, h6⟩
    refine for_go (hc S) h1 h2 ?_
    rw [h3]
    exact h5
theorem erase_map {α β : Type} (f : α → β) : ∀ (xs : List α) (k : Nat), (xs.map f).eraseIdx k = (xs.eraseIdx k).map f
  | [], _ => rfl
  | x :: xs, 0 => rfl
  | x :: xs, k + 1 => by simp [erase_map f xs k]
theorem len_ref {S : Sto} {k : Nat} {xs : List D} (h : S[k]? = some (.lst xs)) : gLen S [.ref k] = some (.int (xs.length : Int)) := by
  unfold gLen
  dsimp only
  rw [vw_ref h]
theorem popAt_perm {S : Sto} {r : Nat} {xs : List Str} {v : Int} (h : S[r]? = some (.lst (xs.map D.str))) (h0 : 0 ≤ v) (h1 : v < (xs.length : Int)) (h2 : xs.length ≤ 1000) : ∃ (y : Str) (xs' : List Str), stPopAt S (.ref r) [.int v] = some (.str y, S.set r (.lst (xs'.map D.str))) ∧ xs.Perm (y :: xs') := by
  have hv : v.toNat < xs.length := by omega
  refine ⟨xs[v.toNat], xs.eraseIdx v.toNat, ?_, ?_⟩
  · unfold stPopAt
    dsimp only
    rw [h]
    dsimp only
    rw [if_pos ⟨by omega, by omega⟩]
    have e : seqIndex? v (xs.map D.str).length = some v.toNat := by
      unfold seqIndex?
      rw [List.length_map]
      simp only [if_neg (show ¬ v < 0 by omega)]
      rw [if_pos (by simp; omega)]
    rw [e]
    show (((xs.map D.str)[v.toNat]?).map _) = _
    rw [List.getElem?_map, List.getElem?_eq_getElem hv, erase_map]
    rfl
  · have key : ∀ (l : List Str) (k : Nat) (hk : k < l.length), l.Perm (l[k] :: l.eraseIdx k) := by
      intro l
      induction l with
      | nil => intro k hk; simp at hk
      | cons x l ih =>
        intro k hk
        cases k with
        | zero => exact .refl _
        | succ k =>
          have hk' : k < l.length := by simpa using hk
          show (x :: l).Perm (l[k] :: x :: l.eraseIdx k)
          exact ((ih k hk').cons x).trans (.swap _ _ _)
    exact key xs v.toNat hv
theorem rise_sorted {ys : List Str} (h : ys.Nodup) : (ys.mergeSort sle).Pairwise fun a b => slt a b = true := by
  have hn : (ys.mergeSort sle).Nodup := (List.mergeSort_perm ys sle).nodup_iff.mpr h
  have hp : (ys.mergeSort sle).Pairwise fun a b => sle a b = true := List.pairwise_mergeSort (le := sle) (fun a b c h1 h2 => by
    unfold sle at *
    exact decide_eq_true (List.le_trans (of_decide_eq_true h1) (of_decide_eq_true h2))) (fun a b => by
    unfold sle
    rw [Bool.or_eq_true]
    exact (List.le_total (tl a) (tl b)).imp decide_eq_true decide_eq_true) _
  refine (List.pairwise_and_iff.mpr ⟨hp, hn⟩).imp fun {a b} q => ?_
  cases z : slt a b with
  | true => rfl
  | false =>
    have hb : slt b a = true := by
      rw [slt_tri (Ne.symm q.2), z]; rfl
    have q1 := q.1
    unfold sle at q1
    exact absurd (of_decide_eq_true q1) (List.not_le.mpr (of_decide_eq_true hb))
theorem range_ok {t : LA} {ρ : Ev} {S S1 : Sto} {j : Int} (h : t ρ S = .ok [.int j] S1) (h0 : 0 ≤ j) (h1 : j < 1000000) : lRange1 t ρ S = .ok ⟨(List.range j.toNat).map fun (i : Nat) => .int (i : Int), fun _ => True⟩ S1 := by
  unfold lRange1
  rw [h, bind_ok]
  show (if -(2 ^ 62) ≤ j ∧ j < 2 ^ 62 then _ else _) = _
  rw [if_pos ⟨by omega, by omega⟩]
theorem one_len (c : Nat) : (⟨#[c]⟩ : Str).length = 1 := rfl
def alph : Str := "abcdefghijklmnopqrstuvwxyz"
def alphS : List Str := alph.cps.toList.map fun c => (⟨#[c]⟩ : Str)
theorem alph_sgs : sgsD alph = alphS.map D.str := by unfold sgsD alphS; rw [List.map_map]; rfl
theorem alph_len : alphS.length = 26 := by decide
def Lt (y : Str) : Prop := ∃ c, y = ⟨#[c]⟩ ∧ isL c = true
theorem Lt.tl {y : Str} (h : Lt y) : ∃ c, tl y = [c] ∧ isL c = true := by
  obtain ⟨c, rfl, hc⟩ := h
  exact ⟨c, rfl, hc⟩
theorem Lt.tx {y : Str} (h : Lt y) : y.length = 1 := by
  obtain ⟨c, rfl, hc⟩ := h
  rfl
theorem alph_lt : ∀ y ∈ alphS, Lt y := by
  intro y hy
  obtain ⟨c, hc, rfl⟩ := List.mem_map.mp hy
  exact ⟨c, rfl, decide_eq_true hc⟩
theorem alph_nd : alphS.Nodup := by decide
def Ls (m : Nat) (x : Str) : Prop := x.length ≤ m ∧ (tl x).all isL = true
theorem nm_of {x : Str} (h : Ls 12 x) (h1 : 1 ≤ x.length) : nm x = true := by
  unfold nm
  rw [decide_eq_true ⟨h1, h.1⟩, h.2]
  rfl
def sgn (a : Nat) (x : Str) : Option Nat := (tl x)[a]?
theorem letters_nd : ∀ {us : List Str}, (∀ y ∈ us, Lt y) → us.Nodup → (us.map (sgn 0)).Nodup
  | [], _, _ => .nil
  | u :: us, h, hn => by
    rw [List.nodup_cons] at hn
    rw [List.map_cons, List.nodup_cons]
    refine ⟨fun hm => hn.1 ?_, letters_nd (fun y hy => h y (List.mem_cons_of_mem _ hy)) hn.2⟩
    obtain ⟨v, hv, e⟩ := List.mem_map.mp hm
    obtain ⟨c, rfl, _⟩ := h u List.mem_cons_self
    obtain ⟨d, rfl, _⟩ := h v (List.mem_cons_of_mem _ hv)
    have e' : some d = some c := e
    injection e' with e'
    rw [← e']
    exact hv
/-! ### four names -/
theorem foldl_rep (c : Nat) : ∀ (k : Nat) (acc : Array Nat), ((List.replicate k (#[c] : Array Nat)).foldl (· ++ ·) acc).toList = acc.toList ++ List.replicate k c
  | 0, acc => by simp
  | k + 1, acc => by
    rw [List.replicate_succ, List.foldl_cons, foldl_rep c k (acc ++ #[c])]
    simp [List.replicate_succ]
theorem rep_tl {c : Nat} {n : Int} (h : 1 ≤ n) : tl (strRep ⟨#[c]⟩ n) = List.replicate n.toNat c := by
  unfold strRep
  rw [if_neg (by omega)]
  by_cases h1 : n = 1
  · subst h1
    rfl
  · have e : ((n == 1 || (⟨#[c]⟩ : Str).length == 0) = true) = False := by
      have : (n == 1) = false := by simpa using h1
      rw [this]
      simp [one_len]
    rw [if_neg (by rw [e]; exact id)]
    exact (foldl_rep c n.toNat #[]).trans (by simp)
theorem rep_nm {y : Str} (hy : Lt y) {n : Int} (h : 1 ≤ n) (h2 : n ≤ 12) : nm (strRep y n) = true ∧ sgn 0 (strRep y n) = sgn 0 y ∧ (strRep y n).length ≤ 12 := by
  obtain ⟨c, rfl, hc⟩ := hy
  have e := rep_tl (c := c) h
  have l : (strRep ⟨#[c]⟩ n).length = n.toNat := by rw [len_tl, e, List.length_replicate]
  refine ⟨nm_of ⟨by omega, ?_⟩ (by omega), ?_, by omega⟩
  · rw [e, List.all_replicate]
    split
    · rfl
    · exact hc
  · unfold sgn
    rw [e]
    obtain ⟨k, hk⟩ : ∃ k, n.toNat = k + 1 := ⟨n.toNat - 1, by omega⟩
    rw [hk]
    rfl
def SFour (g : F) : Prop := ∀ (n : Int) (S : Sto) (j i : Nat), PotAt j i n S → n < 10 ^ 27 → ∃ (a b c d : Str) (S' : Sto), g [.ref j] S = .ok (.lst [.str a, .str b, .str c, .str d]) S' ∧ (nm a = true ∧ nm b = true ∧ nm c = true ∧ nm d = true) ∧ slt a b = true ∧ slt b c = true ∧ slt c d = true
section
variable {P : Program} {w : World} {K : PySem.W.Frag} {mg : Str → Option Value} {base : Heap}
theorem ok_four (T : T10 K mg) : ∃ g, FnL P w K mg base 3 T.f__law_four T.fd__law_four ["_law_pot_here"] g ∧ SFour g := by
  obtain ⟨gd, Fn__law_draw, Sd⟩ := ok_draw (P := P) (w := w) (base := base) T
  refine ⟨_, Fun.okL T.F__law_four sc__law_four fun cdv A outer s H E hr =>
(pssl_cons (psl_par (i := 1) (j := 2) rfl sc__law_four.nd (pal_cons (pel_listS rfl rfl T.n_list (by decide +kernel) (pal_cons pel_str pal_nil)) (pal_cons (pel_lstN pal_nil) pal_nil)))
  (pssl_cons (psl_for (passes_of rfl) rfl (pil_range1 rfl T.n_range (pal_cons pel_int pal_nil)) (pgl_name (i := 3) sc__law_four.nd) (pssl_one (psl_expr (pel_append (pel_var (i := 2)) (pel_op opl_mulS (pel_popAt (pel_var (i := 1)) (pel_call Fn__law_draw (hr.mono (by decide)) rfl T.mg__law_draw T.F__law_draw.kp T.b__law_draw dfl_nil (pal_cons (pel_var (i := 0)) (pal_cons (pel_callB (cl_len) rfl T.n_len (by decide +kernel) (pal_cons (pel_var (i := 1)) pal_nil)) pal_nil)))) (pel_op opl_add2 pel_int (pel_call Fn__law_draw (hr.mono (by decide)) rfl T.mg__law_draw T.F__law_draw.kp T.b__law_draw dfl_nil (pal_cons (pel_var (i := 0)) (pal_cons pel_int pal_nil)))))))))
  (pssl_one (psl_ret (pel_callB (cl_sorted hr.units) rfl T.n_sorted (by decide +kernel) (pal_cons (pel_var (i := 2)) pal_nil)))))), ?_⟩
  intro n S j i hp hn
  have bb : (10 : Int) ^ 27 + 100 < 10 ^ 29 ∧ (1000 : Int) < 10 ^ 200 := by decide +kernel
  obtain ⟨bb1, bb2⟩ := bb
  obtain ⟨hjl, hil⟩ := hp.lt
  have hL : (S ++ [O.lst (alphS.map D.str)] ++ [O.lst []])[S.length]? = some (.lst (alphS.map D.str)) := by simp
  have hF : (S ++ [O.lst (alphS.map D.str)] ++ [O.lst []])[S.length + 1]? = some (.lst (([] : List Str).map D.str)) := by simp
  have p0 : PotAt j i n (S ++ [O.lst (alphS.map D.str)] ++ [O.lst []]) := hp.push.push
  have K0 : Keep2 j i S (S ++ [O.lst (alphS.map D.str)] ++ [O.lst []]) := Keep2.push.trans Keep2.push
  have e0 : lPar 1 2 (aCons (lListS (aCons (lC (.str alph)) aNil)) (aCons (lLstN aNil) aNil)) [some (.ref j), none, none, none] S = .ok (.nx [some (.ref j), some (.ref S.length), some (.ref (S.length + 1)), none]) (S ++ [O.lst (alphS.map D.str)] ++ [O.lst []]) := by
    have h1 : lListS (aCons (lC (.str alph)) aNil) [some (.ref j), none, none, none] S = .ok (.ref S.length) (S ++ [O.lst (alphS.map D.str)]) := by
      unfold lListS
      show (if alph.length ≤ 1000 then (R.ok (.ref S.length) (S ++ [.lst (sgsD alph)]) : R D) else .bad) = _
      rw [if_pos (by decide), alph_sgs]
    have h2 : lLstN aNil [some (.ref j), none, none, none] (S ++ [O.lst (alphS.map D.str)]) = .ok (.ref (S.length + 1)) (S ++ [O.lst (alphS.map D.str)] ++ [O.lst []]) := by
      have := lstN_ok (t := aNil) (ρ := [some (.ref j), none, none, none]) (S := S ++ [O.lst (alphS.map D.str)]) (ds := []) rfl (Nat.zero_le _)
      rw [this, List.length_append]
      rfl
    exact par_ok (acons_ok h1 (acons_ok h2 rfl))
  generalize S ++ [O.lst (alphS.map D.str)] ++ [O.lst []] = S0 at e0 hL hF p0 K0
  obtain ⟨L, hLS⟩ : ∃ L, L = S.length := ⟨_, rfl⟩
  rw [← hLS] at e0 hL hF
  obtain ⟨S5, e5, hI⟩ := for_invB (chk := fun _ => True) (g := gtName 3) (N := 4) (ρ0 := [some (.ref j), some (.ref L), some (.ref (L + 1)), none])
    (lb := lExpr (lBM "list" stApp (lVar 2) (aCons (lBin gMulS (lBM "list" stPopAt (lVar 1) (aCons (lCall 2 gd [] (aCons (lVar 0) (aCons (lCallB gLen (aCons (lVar 1) aNil)) aNil))) aNil)) (lBin gAdd2 (lC (.int 1)) (lCall 2 gd [] (aCons (lVar 0) (aCons (lC (.int 12)) aNil))))) aNil)))
    (I := fun k S' => ∃ ls fs us : List Str, S'[L]? = some (.lst (ls.map D.str)) ∧ S'[L + 1]? = some (.lst (fs.map D.str)) ∧ ls.length + k = 26 ∧ fs.length = k ∧ (∀ y ∈ ls, Lt y) ∧ (∀ y ∈ fs, nm y = true) ∧ (us ++ ls).Nodup ∧ (∀ y ∈ us, Lt y) ∧ fs.map (sgn 0) = us.map (sgn 0) ∧ PotAt j i (n + 2 * k) S' ∧ Keep2 j i S S') (fun _ => trivial)
    ((List.range 4).map fun (i : Nat) => D.int (i : Int)) 0 S0 (by simp) ⟨alphS, [], [], hL, hF, by rw [alph_len], rfl, alph_lt, by simp, alph_nd, by simp, rfl, p0.mono (by omega), K0⟩ (by
    intro d hd k S' hk ⟨ls, fs, us, hl, hf, hll, hfl, tl1, tf, hnd, hus, hsg, hp', hK⟩
    obtain ⟨x, hx, rfl⟩ := List.mem_map.mp hd
    obtain ⟨v, S6, e6, v0, v1, p6, k6⟩ := Sd (n + 2 * k) S' j i (ls.length : Int) hp' (by omega) (by omega) (by omega)
    have hl6 := k6.get hl (by omega) (by omega)
    have hf6 := k6.get hf (by omega) (by omega)
    obtain ⟨le, ls', ez, hpm⟩ := popAt_perm hl6 v0 v1 (by omega)
    have hl' : ls.length = ls'.length + 1 := hpm.length_eq
    have tle := tl1 le (hpm.mem_iff.mpr List.mem_cons_self)
    have tle1 := tle.tx
    have hf7 : (S6.set L (.lst (ls'.map D.str)))[L + 1]? = some (.lst (fs.map D.str)) := by rw [List.getElem?_set_ne (by omega)]; exact hf6
    have hl7 := set_self (o' := .lst (ls'.map D.str)) hl6
    have p7 : PotAt j i (n + 2 * k + 1) (S6.set L (.lst (ls'.map D.str))) := p6.set (by omega) (by omega)
    have k7 : Keep2 j i S (S6.set L (.lst (ls'.map D.str))) := (hK.trans k6).set_new (by omega)
    generalize S6.set L (.lst (ls'.map D.str)) = S7 at ez hf7 hl7 p7 k7
    obtain ⟨v8, S8, e8, u0, u1, p8, k8⟩ := Sd (n + 2 * k + 1) S7 j i 12 p7 (by omega) (by omega) (by omega)
    have hf8 := k8.get hf7 (by omega) (by omega)
    have hl8 := k8.get hl7 (by omega) (by omega)
    obtain ⟨ry, rs, rl⟩ := rep_nm tle (n := 1 + v8) (by omega) (by omega)
    have hm : gMulS S8 (.str le) (.int (1 + v8)) = some (.str (strRep le (1 + v8))) := by
      show (if 0 ≤ 1 + v8 ∧ 1 + v8 ≤ 1000 ∧ le.length ≤ 1000 ∧ (strRep le (1 + v8)).length ≤ sizeLine then some (D.str (strRep le (1 + v8))) else none) = _
      exact if_pos ⟨by omega, by omega, by omega, Nat.le_trans rl (by decide)⟩
    have hpop : lBM "list" stPopAt (lVar 1) (aCons (lCall 2 gd [] (aCons (lVar 0) (aCons (lCallB gLen (aCons (lVar 1) aNil)) aNil))) aNil) [some (.ref j), some (.ref L), some (.ref (L + 1)), some (.int (x : Int))] S' = .ok (.str le) S7 :=
      bm_ok rfl (ty_lst hl) (acons_ok (call_ok (acons_ok rfl (acons_ok (callb_ok (acons_ok rfl rfl) ((len_ref hl).trans (by rw [List.length_map]))) rfl)) rfl e6) rfl) ez
    have hdr : lCall 2 gd [] (aCons (lVar 0) (aCons (lC (.int 12)) aNil)) [some (.ref j), some (.ref L), some (.ref (L + 1)), some (.int (x : Int))] S7 = .ok (.int v8) S8 := call_ok (acons_ok rfl (acons_ok rfl rfl)) rfl e8
    have hel := bin_ok hpop (bin_ok (la := lC (.int 1)) (x := .int 1) rfl hdr add2_ii) hm
    refine ⟨[some (.ref j), some (.ref L), some (.ref (L + 1)), some (.int (x : Int))], _, S8.set (L + 1) (.lst ((fs ++ [strRep le (1 + v8)]).map D.str)), rfl, expr_ok (bm_ok rfl (ty_lst hf) (acons_ok hel rfl) ((app_ok hf8 (by rw [List.length_map]; omega)).trans (by rw [List.map_append]; rfl))), rfl, ls', fs ++ [strRep le (1 + v8)], us ++ [le], ?_, set_self hf8, by omega, by simp [hfl], fun z hz => tl1 z (hpm.mem_iff.mpr (List.mem_cons_of_mem _ hz)), fun z hz => ?_, ?_, fun z hz => ?_, by rw [List.map_append, List.map_append, hsg, List.map_singleton, List.map_singleton, rs], (p8.set (by omega) (by omega)).mono (by omega), (k7.trans k8).set_new (by omega)⟩
    · rw [List.getElem?_set_ne (by omega)]; exact hl8
    · rcases List.mem_append.mp hz with hz | hz
      · exact tf z hz
      · rw [List.mem_singleton.mp hz]; exact ry
    · rw [List.append_assoc]
      exact ((hpm.append_left us).nodup_iff).mp hnd
    · rcases List.mem_append.mp hz with hz | hz
      · exact hus z hz
      · rw [List.mem_singleton.mp hz]; exact tle)
  obtain ⟨ls, fs, us, _, hf, _, hfl, _, tf, hnd, hus, hsg, hp', hK⟩ := hI
  have fnd : fs.Nodup := by
    have un : us.Nodup := (List.nodup_append.mp hnd).1
    have unm : (us.map (sgn 0)).Nodup := letters_nd hus un
    rw [← hsg] at unm
    exact List.Pairwise.of_map _ (fun _ _ hne e => hne (congrArg _ e)) unm
  have hsr := sorted_strs S5 (.ref (L + 1)) fs (by unfold vw; dsimp only; rw [hf]) (by omega)
  have pm := List.mergeSort_perm fs sle
  have ri := rise_sorted fnd
  have tf' : ∀ y ∈ fs.mergeSort sle, nm y = true := fun y hy => tf y (pm.mem_iff.mp hy)
  have hl4 : (fs.mergeSort sle).length = 4 := pm.length_eq.trans hfl
  generalize fs.mergeSort sle = zs at hsr ri tf' hl4
  match zs, hl4 with
  | [a, b, c, d], _ =>
    refine ⟨a, b, c, d, S5, body_rt (seq_nx e0 (seq_nx (for_ok (range_ok (j := 4) (acons_ok rfl rfl) (by decide) (by decide)) e5) (ret_ok (callb_ok (acons_ok rfl rfl) hsr)))), ⟨tf' a (by simp), tf' b (by simp), tf' c (by simp), tf' d (by simp)⟩, ?_⟩
    simp only [List.pairwise_cons, List.mem_cons, List.not_mem_nil, or_false] at ri
    exact ⟨ri.1 b (.inl rfl), ri.2.1 c (.inl rfl), ri.2.2.1 d rfl⟩
end
end K10

namespace K10
open PySem PySem.Spec PyProof.Rows L2 MP TL
open K06 (riP Cd cd_of cd_repr)
open K59 (Pr nm givs taks slt isL lets nm_ok sle sorted_strs cnt_nodup slt_trans slt_irrefl)
open K59 (slt_tri slt_ne)
theorem sorted_of {a l : List Str} (hp : a.Perm l) (ha : a.Pairwise fun x y => slt x y = true) : l.mergeSort sle = a := by
  refine (PySem.W.Srt.the_of_perm sle (fun a b c h1 h2 => decide_eq_true (List.le_trans (of_decide_eq_true h1) (of_decide_eq_true h2))) (fun a b => ?_) (fun a b h1 h2 => ext_tl (List.le_antisymm (of_decide_eq_true h1) (of_decide_eq_true h2))) hp (ha.imp fun {a b} q => ?_)).symm
  · rw [Bool.or_eq_true]
    exact (List.le_total (tl a) (tl b)).imp decide_eq_true decide_eq_true
  · exact decide_eq_true (List.not_lt.mp (List.lt_asymm (of_decide_eq_true q)))
/-! ### the drawing's part; law -/
def pB (a b c : Str) : List Pr := [(a, b), (b, c), (c, a)]
theorem riseB {a b c : Str} (h : Thr a b c) : rsP (pB a b c) = true := by
  have r : ∀ {p q : Pr}, slt p.1 q.1 = true → riP (p, q) = true := fun {p q} hs => ltP_iff.mpr (.inl ⟨slt_ne hs, of_decide_eq_true hs⟩)
  show (riP ((a, b), (b, c)) && (riP ((b, c), (c, a)) && true)) = true
  rw [r (p := (a, b)) (q := (b, c)) h.ab, r (p := (b, c)) (q := (c, a)) h.bc]
  rfl
theorem goodB {a b c : Str} (h : Thr a b c) : GoodP (pB a b c) := by
  refine ⟨by simp [pB], fun p hp => ?_, riseB h, nd3 h, ?_⟩
  · simp only [pB, List.mem_cons, List.not_mem_nil, or_false] at hp
    rcases hp with rfl | rfl | rfl
    · exact ⟨h.ha, h.hb⟩
    · exact ⟨h.hb, h.hc⟩
    · exact ⟨h.hc, h.ha⟩
  · show ([b, c, a] : List Str).mergeSort sle = [a, b, c]
    refine sorted_of ?_ ?_
    · exact (List.perm_append_comm (l₁ := [a]) (l₂ := [b, c]))
    · simp [h.ab, h.bc, h.ac]
def nB (a b c : Str) : List Pr := [(a, ""), (b, ""), (c, "")]
theorem goodN {a b c : Str} (h : Thr a b c) {bs : List Pr} (hb : bs.length ≤ 1) (hn : ∀ p ∈ bs, nmP p) : GoodC (nB a b c) bs [] where
  lm := by simp [nB]
  nd := nd3 h
  lb := by omega
  nb := by
    match bs, hb with
    | [], _ => simp
    | [p], _ => simp
  ly := by simp
  gm := fun p hp => by
    simp only [nB, List.mem_cons, List.not_mem_nil, or_false] at hp
    rcases hp with rfl | rfl | rfl
    · exact ⟨h.ha, .inl rfl⟩
    · exact ⟨h.hb, .inl rfl⟩
    · exact ⟨h.hc, .inl rfl⟩
  gb := hn
  gy := fun p hp => nomatch hp
theorem rsN {bs : List Pr} {x y : Str} (hne : x ≠ y) : rsH bs (x, y) = if (x, y) ∈ bs then .str "bar" else .non := by
  unfold rsH rsn
  dsimp only
  rw [if_neg hne, if_neg (fun z => z.1 rfl)]
  split
  · rfl
  · rw [if_neg (fun z => nomatch z)]
theorem keptB {a b c : Str} (h : Thr a b c) : ((pB a b c).filter fun p => !isNonD (rsH [] p)) = [] := by
  have e : ∀ {x y : Str}, x ≠ y → rsH [] (x, y) = .non := fun {x y} hne => by rw [rsN hne, if_neg (fun z => nomatch z)]
  unfold pB
  rw [List.filter_cons, e h.nab, if_neg (by decide), List.filter_cons, e h.nbc, if_neg (by decide), List.filter_cons, e (Ne.symm h.nac), if_neg (by decide), List.filter_nil]
theorem brokB {a b c : Str} (h : Thr a b c) : ((pB a b c).filter fun p => !isNonD (rsH [(b, c)] p)).map (rowD [(b, c)]) = [D.tup [.str b, .str c, .str "bar"]] := by
  have e1 : rsH [(b, c)] (a, b) = .non := by
    rw [rsN h.nab, if_neg (fun z => h.nab (by
      have e := List.mem_singleton.mp z
      injection e with e1 e2))]
  have e2 : rsH [(b, c)] (b, c) = .str "bar" := by rw [rsN h.nbc, if_pos (List.mem_singleton.mpr rfl)]
  have e3 : rsH [(b, c)] (c, a) = .non := by
    rw [rsN (Ne.symm h.nac), if_neg (fun z => h.nbc (by
      have e := List.mem_singleton.mp z
      injection e with e1 e2
      exact e1.symm))]
  unfold pB
  rw [List.filter_cons, e1, if_neg (by decide), List.filter_cons, e2, if_pos (show (!isNonD (.str "bar")) = true from rfl), List.filter_cons, e3, if_neg (by decide), List.filter_nil, List.map_cons, List.map_nil]
  unfold rowD
  rw [e2]
theorem woB {a b c : Str} (h : Thr a b c) : wo b (nB a b c) = ([(a, ""), (c, "")] : List Pr) := by
  unfold wo nB
  rw [List.filter_cons, if_pos (show (!decide (a = b)) = true by rw [decide_eq_false h.nab]; rfl), List.filter_cons, if_neg (show ¬ (!decide (b = b)) = true by rw [decide_eq_true rfl]; exact Bool.false_ne_true), List.filter_cons, if_pos (show (!decide (c = b)) = true by rw [decide_eq_false (Ne.symm h.nbc)]; rfl), List.filter_nil]
theorem wiB {a b c d : Str} (h : Thr a b c) (hcd : slt c d = true) : (nB a b c ++ ([(d, "h")] : List Pr)).mergeSort leP = nB a b c ++ ([(d, "h")] : List Pr) := by
  have l : ∀ {p q : Pr}, slt p.1 q.1 = true → leP p q = true := fun {p q} hs => leP_iff.mpr (.inr (ltP_iff.mpr (.inl ⟨slt_ne hs, of_decide_eq_true hs⟩)))
  have hbd := slt_trans h.bc hcd
  have had := slt_trans h.ab hbd
  refine List.mergeSort_of_pairwise ?_
  show List.Pairwise _ ([(a, ""), (b, ""), (c, ""), (d, "h")] : List Pr)
  simp only [List.pairwise_cons, List.mem_cons, List.not_mem_nil, or_false]
  refine ⟨fun q hq => ?_, fun q hq => ?_, fun q hq => ?_, fun q hq => hq.elim, .nil⟩
  · rcases hq with rfl | rfl | rfl
    · exact l h.ab
    · exact l h.ac
    · exact l had
  · rcases hq with rfl | rfl
    · exact l h.bc
    · exact l hbd
  · subst hq
    exact l hcd
def SDR (g : F) : Prop := ∀ (S : Sto) (a b c d : Str), Thr a b c → nm d = true → slt c d = true → g [.str a, .str b, .str c, .str d] S = .ok (.bl true) S
def SLaw (g : F) : Prop := ∀ ns : List Int, ns.length ≤ 63 → ∃ S', g [.lst (ns.map D.int)] [] = .ok (.bl true) S'
section
variable {P : Program} {w : World} {K : PySem.W.Frag} {mg : Str → Option Value} {base : Heap}
theorem ok_dright (T : T10 K mg) : ∃ g, FnL P w K mg base 7 T.f__law_drawing_right T.fd__law_drawing_right ["_law_a", "_law_b", "_law_c", "_law_d"] g ∧ SDR g := by
  obtain ⟨gi, Fn_Circle___init__, le_Circle⟩ := ok_cinit (P := P) (w := w) (base := base) T
  obtain ⟨gj, Fn_Drawing___init__, le_Drawing⟩ := ok_init (P := P) (w := w) (base := base) T
  obtain ⟨gt, Fn_Drawing_taker_of, St⟩ := ok_taker (P := P) (w := w) (base := base) T
  obtain ⟨gg, Fn_Drawing_giver_of, Sg⟩ := ok_giver (P := P) (w := w) (base := base) T
  obtain ⟨gk, Fn_keeps, Sk⟩ := ok_keeps (P := P) (w := w) (base := base) T
  obtain ⟨gb, Fn_broken, Sb⟩ := ok_broken (P := P) (w := w) (base := base) T
  obtain ⟨gw, Fn_without, Sw⟩ := ok_without (P := P) (w := w) (base := base) T
  obtain ⟨g1, Fn_with_one, S1⟩ := ok_withone (P := P) (w := w) (base := base) T
  have Fn_Circle___eq__ := ok_ceq (P := P) (w := w) (base := base) T
  obtain ⟨ds1, kdC1, kbC1⟩ := T.k1
  obtain ⟨ds2, kdC2, kbC2⟩ := T.k2
  refine ⟨_, Fun.okL T.F__law_drawing_right sc__law_drawing_right fun cdv A outer s H E hr =>
(pssl_cons (psl_par (i := 4) (j := 5) rfl sc__law_drawing_right.nd (pal_cons (pel_makeKw0 (ks := ["members"]) T.mk_Circle Fn_Circle___init__ (hr.mono (by decide)) rfl T.mg_Circle kbC1 kdC1 (mk1_le le_Circle) (pkl_cons (pel_tupF (pal_cons (pel_tup (pal_cons (pel_var (i := 0)) (pal_cons pel_str pal_nil))) (pal_cons (pel_tup (pal_cons (pel_var (i := 1)) (pal_cons pel_str pal_nil))) (pal_cons (pel_tup (pal_cons (pel_var (i := 2)) (pal_cons pel_str pal_nil))) pal_nil)))) pkl_nil)) (pal_cons (pel_makeKw0 (ks := ["pairs"]) T.mk_Drawing Fn_Drawing___init__ (hr.mono (by decide)) rfl T.mg_Drawing T.kw_Drawing dfl_nil (mkD_le le_Drawing) (pkl_cons (pel_tup (pal_cons (pel_tup (pal_cons (pel_var (i := 0)) (pal_cons (pel_var (i := 1)) pal_nil))) (pal_cons (pel_tup (pal_cons (pel_var (i := 1)) (pal_cons (pel_var (i := 2)) pal_nil))) (pal_cons (pel_tup (pal_cons (pel_var (i := 2)) (pal_cons (pel_var (i := 0)) pal_nil))) pal_nil)))) pkl_nil)) pal_nil)))
  (pssl_cons (psl_if (PWL.pt (pwl_or (ptl_cmp (opl_ne hr.units) (pel_methK (ks := ["name"]) T.cl_Drawing T.mt_Drawing_taker_of Fn_Drawing_taker_of (hr.mono (by decide)) T.kw_Drawing_taker_of_name (pel_var (i := 5)) (pkl_cons (pel_var (i := 2)) pkl_nil)) (pel_var (i := 0))) (pwl_or (ptl_cmp (opl_ne hr.units) (pel_methK (ks := ["name"]) T.cl_Drawing T.mt_Drawing_giver_of Fn_Drawing_giver_of (hr.mono (by decide)) T.kw_Drawing_giver_of_name (pel_var (i := 5)) (pkl_cons (pel_var (i := 2)) pkl_nil)) (pel_var (i := 1))) (pwl_or1 (ptl_cmp opl_notB (pel_callKw0 (ks := ["drawing", "circle"]) Fn_keeps (hr.mono (by decide)) rfl T.mg_keeps T.F_keeps.kp T.kw_keeps dfl_nil (pkl_cons (pel_var (i := 5)) (pkl_cons (pel_var (i := 4)) pkl_nil))) pel_bl))))) (pssl_one (psl_ret pel_bl)) pssl_nil)
  (pssl_cons (psl_if (ptl_cmp (opl_ne hr.units) (pel_callKw0 (ks := ["drawing", "circle"]) Fn_broken (hr.mono (by decide)) rfl T.mg_broken T.F_broken.kp T.kw_broken dfl_nil (pkl_cons (pel_var (i := 5)) (pkl_cons (pel_makeKw0 (ks := ["members", "bars"]) T.mk_Circle Fn_Circle___init__ (hr.mono (by decide)) rfl T.mg_Circle kbC2 kdC2 (mk2_le le_Circle) (pkl_cons (pel_fld T.cl_Circle T.na_Circle_members (pel_var (i := 4))) (pkl_cons (pel_tup (pal_cons (pel_tup (pal_cons (pel_var (i := 1)) (pal_cons (pel_var (i := 2)) pal_nil))) pal_nil)) pkl_nil))) pkl_nil))) (pel_tup (pal_cons (pel_tup (pal_cons (pel_var (i := 1)) (pal_cons (pel_var (i := 2)) (pal_cons pel_str pal_nil)))) pal_nil))) (pssl_one (psl_ret pel_bl)) pssl_nil)
  (pssl_cons (psl_if (ptl_not (ptl_cmp (opl_ownEq ⟨⟨1, _, _, _, Fn_Circle___eq__, hr.mono (by decide), T.b_Circle___eq__, rfl, T.a_Circle___eq__, T.i_Circle___eq__⟩, T.fst_Circle⟩) (pel_callKw0 (ks := ["name", "circle"]) Fn_without (hr.mono (by decide)) rfl T.mg_without T.F_without.kp T.kw_without dfl_nil (pkl_cons (pel_var (i := 1)) (pkl_cons (pel_var (i := 4)) pkl_nil))) (pel_makeKw0 (ks := ["members"]) T.mk_Circle Fn_Circle___init__ (hr.mono (by decide)) rfl T.mg_Circle kbC1 kdC1 (mk1_le le_Circle) (pkl_cons (pel_tupF (pal_cons (pel_tup (pal_cons (pel_var (i := 0)) (pal_cons pel_str pal_nil))) (pal_cons (pel_tup (pal_cons (pel_var (i := 2)) (pal_cons pel_str pal_nil))) pal_nil))) pkl_nil)))) (pssl_one (psl_ret pel_bl)) pssl_nil)
  (pssl_one (psl_ret (pel_cmp (opl_ownEq ⟨⟨1, _, _, _, Fn_Circle___eq__, hr.mono (by decide), T.b_Circle___eq__, rfl, T.a_Circle___eq__, T.i_Circle___eq__⟩, T.fst_Circle⟩) (pel_callKw0 (ks := ["member", "circle"]) Fn_with_one (hr.mono (by decide)) rfl T.mg_with_one T.F_with_one.kp T.kw_with_one dfl_nil (pkl_cons (pel_tup (pal_cons (pel_var (i := 3)) (pal_cons pel_str pal_nil))) (pkl_cons (pel_var (i := 4)) pkl_nil))) (pel_makeKw0 (ks := ["members"]) T.mk_Circle Fn_Circle___init__ (hr.mono (by decide)) rfl T.mg_Circle kbC1 kdC1 (mk1_le le_Circle) (pkl_cons (pel_op opl_addF (pel_fld T.cl_Circle T.na_Circle_members (pel_var (i := 4))) (pel_tup (pal_cons (pel_tup (pal_cons (pel_var (i := 3)) (pal_cons pel_str pal_nil))) pal_nil))) pkl_nil))))))))), ?_⟩
  intro S a b c d h hd hcd
  have h0 := goodN h (bs := []) (by simp) (fun p hp => nomatch hp)
  have hb := goodN h (bs := [(b, c)]) (by simp) (fun p hp => by rw [List.mem_singleton.mp hp]; exact ⟨h.hb, h.hc⟩)
  have gp := goodB h
  have mk0 : crF T.C_Circle [.ftup (psD (nB a b c)), .non, .non, .int 1] S = .ok (crD T.C_Circle (nB a b c) [] []) S := crF_of h0 ⟨_, _, rfl, .inr ⟨rfl, rfl⟩, .inr ⟨rfl, rfl⟩⟩
  have mkb : crF T.C_Circle [.ftup (psD (nB a b c)), .tup (psD [(b, c)]), .non, .int 1] S = .ok (crD T.C_Circle (nB a b c) [(b, c)] []) S := crF_of hb ⟨_, _, rfl, .inl rfl, .inr ⟨rfl, rfl⟩⟩
  have mkd : drF T.C_Drawing [.tup (psD (pB a b c))] S = .ok (drD T.C_Drawing (pB a b c)) S := drF_of gp
  have hnd : ((pB a b c).map (·.1)).Nodup := nd3 h
  have hnt : ((pB a b c).map (·.2)).Nodup := by
    show ([b, c, a] : List Str).Nodup
    simp [h.nbc, Ne.symm h.nab, Ne.symm h.nac]
  have t1 := St S (pB a b c) (c, a) gp (by simp [pB]) hnd
  have t2 := Sg S (pB a b c) (b, c) gp (by simp [pB]) hnt
  have t3 : gk [crD T.C_Circle (nB a b c) [] [], drD T.C_Drawing (pB a b c)] S = .ok (.bl true) S := Sk S [] (pB a b c) h0 gp (keptB h)
  have t4 : gb [crD T.C_Circle (nB a b c) [(b, c)] [], drD T.C_Drawing (pB a b c)] S = .ok (.tup [.tup [.str b, .str c, .str "bar"]]) S := by
    have := Sb S [(b, c)] (pB a b c) hb gp
    rw [brokB h] at this
    exact this
  have t5 := Sw S (nB a b c) [] [] (b, "") h0 (by simp [nB])
  rw [show wo (b, ("" : Str)).1 (nB a b c) = ([(a, ""), (c, "")] : List Pr) from woB h] at t5
  have gw := good_wo h0 b
  rw [woB h] at gw
  have mk2 : crF T.C_Circle [.ftup (psD [(a, ""), (c, "")]), .non, .non, .int 1] S = .ok (crD T.C_Circle [(a, ""), (c, "")] [] []) S := crF_of gw ⟨_, _, rfl, .inr ⟨rfl, rfl⟩, .inr ⟨rfl, rfl⟩⟩
  have hdn : (d, ("h" : Str)).1 ∉ givs (nB a b c) := by
    show d ∉ [a, b, c]
    have hbd := slt_trans h.bc hcd
    have had := slt_trans h.ab hbd
    simp [Ne.symm (slt_ne hcd), Ne.symm (slt_ne hbd), Ne.symm (slt_ne had)]
  have t6 := S1 S (nB a b c) [] [] (d, "h") h0 ⟨hd, .inr nm_h⟩ hdn (by simp [nB])
  have g6 := good_wi h0 (p := (d, "h")) ⟨hd, .inr nm_h⟩ hdn (by simp [nB])
  rw [wiB h hcd] at t6 g6
  have mk6 : crF T.C_Circle [.ftup (psD (nB a b c ++ ([(d, "h")] : List Pr))), .non, .non, .int 1] S = .ok (crD T.C_Circle (nB a b c ++ ([(d, "h")] : List Pr)) [] []) S := crF_of g6 ⟨_, _, rfl, .inr ⟨rfl, rfl⟩, .inr ⟨rfl, rfl⟩⟩
  have ad : gAddF S (.ftup (psD (nB a b c))) (.tup [pD (d, "h")]) = some (.ftup (psD (nB a b c ++ ([(d, "h")] : List Pr)))) := by
    show (if psD (nB a b c) ≠ [] ∧ [pD (d, "h")] ≠ [] ∧ (psD (nB a b c)).length + [pD (d, "h")].length ≤ 100000 then some (D.ftup (psD (nB a b c) ++ [pD (d, "h")])) else none) = _
    exact if_pos ⟨by simp [psD, nB], by simp, by simp [psD, nB]⟩
  have own2 := own_cr (C := T.C_Circle) (S := S) gw
  have own6 := own_cr (C := T.C_Circle) (S := S) g6
  have ner := ne_row (S := S) h.hb h.hc
  obtain ⟨box, hbox⟩ : ∃ box, box = crD T.C_Circle (nB a b c) [] [] := ⟨_, rfl⟩
  obtain ⟨made, hmade⟩ : ∃ made, made = drD T.C_Drawing (pB a b c) := ⟨_, rfl⟩
  have rd : ∀ mn : Str, (("pairs" : Str) == mn) = false → recv T.C_Drawing mn S made = true := fun mn hm => by
    rw [hmade]
    show (decide (T.C_Drawing = T.C_Drawing) && (([("pairs", D.tup (psD (pB a b c)))] : List (Str × D)).lookup mn).isNone) = true
    rw [decide_eq_true rfl, List.lookup_cons]
    have : (mn == ("pairs" : Str)) = false := by rw [BEq.comm]; exact hm
    rw [this]
    rfl
  have mem : ∀ ρ : Ev, ρ[4]? = some (some box) → lFld T.C_Circle "members" (lVar 4) ρ S = .ok (.ftup (psD (nB a b c))) S := fun ρ h4 => fld_cr (by rw [h4, hbox]) rfl
  rw [← hbox] at mk0 t3 t5 t6
  rw [← hmade] at mkd t1 t2 t3 t4
  have t1' : tTru (lBin gNe (lMethK T.C_Drawing "taker_of" 1 gt [0, 1] (lVar 5) (aCons (lVar 2) aNil)) (lVar 0)) [some (.str a), some (.str b), some (.str c), some (.str d), some box, some made] S = .ok false S :=
    tru_b (bin_ok (methK_ok rfl (rd _ (by decide)) (acons_ok rfl rfl) rfl t1) rfl ne_str) rfl
  have t2' : tTru (lBin gNe (lMethK T.C_Drawing "giver_of" 1 gg [0, 1] (lVar 5) (aCons (lVar 2) aNil)) (lVar 1)) [some (.str a), some (.str b), some (.str c), some (.str d), some box, some made] S = .ok false S :=
    tru_b (bin_ok (methK_ok rfl (rd _ (by decide)) (acons_ok rfl rfl) rfl t2) rfl ne_str) rfl
  exact body_rt (seq_nx (par_ok (acons_ok (mkK_ok (acons_ok (tupF_ok (acons_ok (tup_ok (acons_ok rfl (acons_ok rfl rfl)) (by simp)) (acons_ok (tup_ok (acons_ok rfl (acons_ok rfl rfl)) (by simp)) (acons_ok (tup_ok (acons_ok rfl (acons_ok rfl rfl)) (by simp)) rfl))) (by simp)) rfl) rfl mk0)
      (acons_ok (mkK_ok (acons_ok (tup_ok (acons_ok (tup_ok (acons_ok rfl (acons_ok rfl rfl)) (by simp)) (acons_ok (tup_ok (acons_ok rfl (acons_ok rfl rfl)) (by simp)) (acons_ok (tup_ok (acons_ok rfl (acons_ok rfl rfl)) (by simp)) rfl))) (by simp)) rfl) rfl mkd) rfl)))
    (seq_nx (if_ff (or_ff t1' (or_ff t2' (tru_b (bin_ok (callK0_ok (acons_ok rfl (acons_ok rfl rfl)) rfl t3) rfl rfl) rfl))) rfl)
    (seq_nx (if_ff (tru_b (bin_ok (callK0_ok (acons_ok rfl (acons_ok (mkK_ok (acons_ok (mem _ rfl) (acons_ok (tup_ok (acons_ok (tup_ok (acons_ok rfl (acons_ok rfl rfl)) (by simp)) rfl) (by simp)) rfl)) rfl mkb) rfl)) rfl t4) (tup_ok (acons_ok (tup_ok (acons_ok rfl (acons_ok rfl (acons_ok rfl rfl))) (by simp)) rfl) (by simp)) ner) rfl) rfl)
    (seq_nx (if_ff (not_ok (b := true) (tru_b (bin_ok (callK0_ok (acons_ok rfl (acons_ok rfl rfl)) rfl t5) (mkK_ok (acons_ok (tupF_ok (acons_ok (tup_ok (acons_ok rfl (acons_ok rfl rfl)) (by simp)) (acons_ok (tup_ok (acons_ok rfl (acons_ok rfl rfl)) (by simp)) rfl)) (by simp)) rfl) rfl mk2) own2) rfl)) rfl)
    (ret_ok (bin_ok (callK0_ok (acons_ok (tup_ok (acons_ok rfl (acons_ok rfl rfl)) (by simp)) (acons_ok rfl rfl)) rfl t6) (mkK_ok (acons_ok (bin_ok (mem _ rfl) (tup_ok (acons_ok (tup_ok (acons_ok rfl (acons_ok rfl rfl)) (by simp)) rfl) (by simp)) ad) rfl) rfl mk6) own6))))))
theorem dash_nm (a : Str) : nm (a ++ "-") = false := by
  unfold nm
  rw [tl_append, List.all_append]
  have e : (tl ("-" : Str)).all isL = false := by decide
  rw [e, Bool.and_false, Bool.and_false]
theorem ok_law (T : T10 K mg) : ∃ g, FnL P w K mg base 8 T.f_law T.fd_law ["_law_script"] g ∧ SLaw g := by
  obtain ⟨gp, Fn__law_pot, Sp⟩ := ok_pot (P := P) (w := w) (base := base) T
  obtain ⟨gf, Fn__law_four, Sf⟩ := ok_four (P := P) (w := w) (base := base) T
  obtain ⟨gn, Fn_is_name, Sn⟩ := ok_name (P := P) (w := w) (base := base) T
  obtain ⟨gc, Fn__law_circle_right, Sc⟩ := ok_cright (P := P) (w := w) (base := base) T
  obtain ⟨gd, Fn__law_drawing_right, Sd⟩ := ok_dright (P := P) (w := w) (base := base) T
  refine ⟨_, Fun.okL T.F_law sc_law fun cdv A outer s H E hr =>
(pssl_cons (psl_set (i := 1) sc_law.nd (pel_call Fn__law_pot (hr.mono (by decide)) rfl T.mg__law_pot T.F__law_pot.kp T.b__law_pot dfl_nil (pal_cons (pel_var (i := 0)) pal_nil)))
  (pssl_cons (psl_asgL (n := 4) rfl (pel_call Fn__law_four (hr.mono (by decide)) rfl T.mg__law_four T.F__law_four.kp T.b__law_four dfl_nil (pal_cons (pel_var (i := 1)) pal_nil)) (pgsl_cons (pgl_name (i := 2) sc_law.nd) (pgsl_cons (pgl_name (i := 3) sc_law.nd) (pgsl_cons (pgl_name (i := 4) sc_law.nd) (pgsl_cons (pgl_name (i := 5) sc_law.nd) pgsl_nil)))))
  (pssl_cons (psl_if (PWL.pt (pwl_or (ptl_cmp opl_notB (pel_callKw0 (ks := ["thing"]) Fn_is_name (hr.mono (by decide)) rfl T.mg_is_name T.F_is_name.kp T.kw_is_name dfl_nil (pkl_cons (pel_var (i := 2)) pkl_nil)) pel_bl) (pwl_or1 (ptl_cmp opl_notB (pel_callKw0 (ks := ["thing"]) Fn_is_name (hr.mono (by decide)) rfl T.mg_is_name T.F_is_name.kp T.kw_is_name dfl_nil (pkl_cons (pel_op opl_add2 (pel_var (i := 2)) pel_str) pkl_nil)) pel_bl)))) (pssl_one (psl_ret pel_bl)) pssl_nil)
  (pssl_one (psl_ret (pel_and (pel_call Fn__law_circle_right (hr.mono (by decide)) rfl T.mg__law_circle_right T.F__law_circle_right.kp T.b__law_circle_right dfl_nil (pal_cons (pel_var (i := 2)) (pal_cons (pel_var (i := 3)) (pal_cons (pel_var (i := 4)) pal_nil)))) (pel_one (pel_call Fn__law_drawing_right (hr.mono (by decide)) rfl T.mg__law_drawing_right T.F__law_drawing_right.kp T.b__law_drawing_right dfl_nil (pal_cons (pel_var (i := 2)) (pal_cons (pel_var (i := 3)) (pal_cons (pel_var (i := 4)) (pal_cons (pel_var (i := 5)) pal_nil)))))))))))), ?_⟩
  intro ns hl
  obtain ⟨j, i, S1, e1, p1⟩ := Sp [] ns hl
  obtain ⟨a, b, c, d, S2, e2, ⟨ha, hb, hc, hd⟩, hab, hbc, hcd⟩ := Sf 0 S1 j i p1 (by decide)
  have h : Thr a b c := ⟨ha, hb, hc, hab, hbc⟩
  have la := nm_len ha
  have n1 := Sn S2 (.str a) (decide_eq_true la)
  have hl2 : (a ++ "-").length ≤ 13 := by
    have e : (a ++ "-").length = a.length + 1 := by rw [len_tl, tl_append, List.length_append, ← len_tl]; rfl
    unfold nm at ha
    rw [Bool.and_eq_true] at ha
    have := (of_decide_eq_true ha.1).2
    omega
  have la2 : a.length ≤ 99999 := by
    have e : (a ++ "-").length = a.length + 1 := by rw [len_tl, tl_append, List.length_append, ← len_tl]; rfl
    omega
  have n2 := Sn S2 (.str (a ++ "-")) (decide_eq_true (by omega))
  rw [show nmD (.str a) = true from ha] at n1
  rw [show nmD (.str (a ++ "-")) = false from dash_nm a] at n2
  exact ⟨S2, body_rt (seq_nx (set_ok (call_ok (acons_ok rfl rfl) rfl e1)) (seq_nx (asgL_ok (call_ok (acons_ok rfl rfl) rfl e2) rfl)
    (seq_nx (if_ff (or_ff (tru_b (bin_ok (callK0_ok (acons_ok rfl rfl) rfl n1) rfl rfl) rfl) (tru_b (bin_ok (callK0_ok (acons_ok (bin_ok rfl rfl (add2_ss (sz (by have h1 : ("-" : Str).length = 1 := rfl; omega)))) rfl) rfl n2) rfl rfl) rfl)) rfl)
    (ret_ok (andv_tt (d := .bl true) (call_ok (acons_ok rfl (acons_ok rfl (acons_ok rfl rfl))) rfl (Sc S2 a b c h)) rfl (call_ok (acons_ok rfl (acons_ok rfl (acons_ok rfl (acons_ok rfl rfl)))) rfl (Sd S2 a b c d h hd hcd)))))))⟩
end
end K10

namespace MP
open PySem PySem.Spec PyProof.Rows L2
theorem dfl3 {K : PySem.W.Frag} {T : Addr} {a b c cls : Value} {n : Nat} {dd : Option Addr} {sl : Array (Option Value)} (h : K.lookup T = some ⟨cls, dd, .seq #[a, b, c] n, sl⟩) (ha : a = .none) (hb : b = .none) (hc : ∃ t, c = .int 1 t) : DflV K (.ref T) [.non, .non, .int 1] :=
  .inr ⟨by simp, T, _, [a, b, c], n, rfl, h, rfl, .cons ha (.cons hb (.cons hc .nil))⟩
end MP
namespace K10
open PySem PySem.Spec PyProof.Rows L2 MP
def spLaw (K : PySem.W.Frag) : Sp := fun vs H Q _ => ∃ (a : Addr) (ns : List Int), vs = [.ref a] ∧ SqL K H a (ns.map V.int) ∧ ns.length ≤ 63 ∧ ∀ H', Q (.bl true) H'
theorem sr_nil {K : PySem.W.Frag} {H : Hp} : SR K [] H [] := ⟨List.nodup_nil, rfl, fun i a o h => by simp at h⟩
theorem vr_script {K : PySem.W.Frag} {H : Hp} {a : Addr} {ns : List Int} (h : SqL K H a (ns.map V.int)) : VR K [] H (.ref a) (.lst (ns.map D.int)) := by
  rcases h with h | ⟨o, its, n, hk, h1, h2, h3, h4, h5⟩
  · exact .lst (by simp) h VRs.of_ints
  · exact .lstK hk h1 h2 h3 h4 h5 VRs.of_ints
section
variable {P : Program} {w : World} {K : PySem.W.Frag} {mg : Str → Option Value} {base : Heap}
theorem law_fn (T : T10 K mg) : MP.FnOk P w K mg base (L2.CX P w) 8 T.f_law T.fd_law ["_law_script"] (spLaw K) := by
  obtain ⟨g, Fn, Sl⟩ := ok_law (P := P) (w := w) (base := base) T
  refine MP.FnOk.imp Fn fun vs H Q E ⟨a, ns, e, hS, hl, k⟩ => ?_
  subst e
  obtain ⟨S', q⟩ := Sl ns hl
  have key : spL K g 1 [.ref a] H Q E := by
    refine ⟨rfl, [], [], [.lst (ns.map D.int)], sr_nil, .cons (vr_script hS) .nil, ?_, ?_, ?_⟩
    · rw [q]; intro z; cases z
    · intro d S2 q2 v H' z
      rw [q] at q2
      cases q2
      obtain ⟨m', e, x, w⟩ := z
      cases w
      exact k H'
    · intro C fs S2 q2
      rw [q] at q2
      cases q2
  exact key
theorem all_ {l : PySem.W.OpenLaw} {w : World} {K : PySem.W.Frag} {mg : Str → Option Value} {fa : Addr} (hfa : mg "law" = some (.ref fa)) (T : T10 K mg) :
    ∃ fd : FuncData, (∀ (s : Shared) (u : Value), BindsTo s fd ⟨[u], []⟩ [("_law_script", u)]) ∧ ∀ base : Heap, K.In base → base.Ns mainGlobals mg → MP.FnOk l.prog w K mg base (L2.CX l.prog w) 8 fa fd ["_law_script"] (spLaw K) := by
  have e := hfa.symm.trans T.mg_law
  cases e
  refine ⟨T.fd_law, fun s u => ?_, fun base _ _ => law_fn T⟩
  obtain ⟨oc, od, kV, doc, pm, an, cdv, ct, osl, e, lk, hcd⟩ := T.F_law.ex
  rw [e]
  exact .of_eq rfl
end
theorem walk {l : PySem.W.OpenLaw} {q : Program} {loose : List Str} {XP : (Str → Option Value) → Heap → Prop} {YP : World → Heap → Prop} {d : DefRec} {K : Params → PySem.W.Frag} (hn : l.most = some 63) (hdf : d.params.defaults = [])
    (hY : ∀ (w : World) (h : Heap), YP w h → (K w.params).In h)
    (F : ∀ (w : World) (mg : Str → Option Value) (fa : Addr) (h : Heap), (K w.params).In h → h.Ns mainGlobals mg → mg d.name = some (.ref fa) →
      ∃ fd : FuncData, (∀ (s : Shared) (u : Value), BindsTo s fd ⟨[u], []⟩ [("_law_script", u)]) ∧ ∀ base : Heap, (K w.params).In base → base.Ns mainGlobals mg → MP.FnOk l.prog w (K w.params) mg base (L2.CX l.prog w) 8 fa fd ["_law_script"] (spLaw (K w.params))) :
    PySem.W.WalkO q loose XP YP l.row.toRowW d [] (fun f vs => PySem.call f vs) :=
  MP.walk_ofG (n := 63) (k := 8) (x := "_law_script") (CX := fun w => L2.CX l.prog w) (sp := fun w => spLaw (K w.params)) hn (by decide) hdf (room_caller ⟨rfl, by decide, by decide⟩) hY F (fun _ _ a ns hl _ _ hS => ⟨a, ns, rfl, hS, hl, fun _ => rfl⟩) fun _ _ _ _ _ z => by
    obtain ⟨_, _, _, _, _, _, _, _, _, _, _, _, hE⟩ := z
    exact hE
end K10
open PySem PySem.W PyProof.Rows
set_option maxRecDepth 100000 in
set_option maxHeartbeats 0 in
theorem PySem.Challenge.cw_lotgivers_k10_by_names_of_one_and_two_holds : PySem.Challenge.rw_lotgivers_k10_by_names_of_one_and_two.Holds := by
  w_on; o_law; k_head; (case hw => w_witness2)
  k_fill
  refine K10.walk (l := PySem.Challenge.rw_lotgivers_k10_by_names_of_one_and_two) rfl rfl (fun w h Y => PySem.W.kIn_of Y) ?F
  case F =>
    intro w mg fa h KX G hmg
    refine' K10.all_ hmg (K10.T10_mk KX G ?aC_Circle ?aC_Drawing ?a_is_name ?l_is_name ?c_is_name ?k_is_name ?a_is_pair ?l_is_pair ?c_is_pair ?k_is_pair ?a_does_rise ?l_does_rise ?c_does_rise ?k_does_rise ?a_are_pairs ?l_are_pairs ?c_are_pairs ?k_are_pairs ?a_is_member ?l_is_member ?c_is_member ?k_is_member ?a_are_members ?l_are_members ?c_are_members ?k_are_members ?a_are_years ?l_are_years ?c_are_years ?k_are_years ?a_is_circle ?l_is_circle ?c_is_circle ?k_is_circle ?a_Circle___init__ ?i_Circle___init__ ?l_Circle___init__ ?c_Circle___init__ ?k_Circle___init__ ?dv_Circle___init__ ?a_Circle___eq__ ?i_Circle___eq__ ?l_Circle___eq__ ?c_Circle___eq__ ?k_Circle___eq__ ?a_Circle_names ?i_Circle_names ?l_Circle_names ?c_Circle_names ?k_Circle_names ?a_Circle_house_of ?i_Circle_house_of ?l_Circle_house_of ?c_Circle_house_of ?k_Circle_house_of ?a_Circle_reason ?i_Circle_reason ?l_Circle_reason ?c_Circle_reason ?k_Circle_reason ?a_Circle_takers ?i_Circle_takers ?l_Circle_takers ?c_Circle_takers ?k_Circle_takers ?a_Circle_givers ?i_Circle_givers ?l_Circle_givers ?c_Circle_givers ?k_Circle_givers ?a_without ?l_without ?c_without ?k_without ?a_with_one ?l_with_one ?c_with_one ?k_with_one ?a_are_drawn ?l_are_drawn ?c_are_drawn ?k_are_drawn ?a_Drawing___init__ ?i_Drawing___init__ ?l_Drawing___init__ ?c_Drawing___init__ ?k_Drawing___init__ ?a_Drawing_taker_of ?i_Drawing_taker_of ?l_Drawing_taker_of ?c_Drawing_taker_of ?k_Drawing_taker_of ?a_Drawing_giver_of ?i_Drawing_giver_of ?l_Drawing_giver_of ?c_Drawing_giver_of ?k_Drawing_giver_of ?a_keeps ?l_keeps ?c_keeps ?k_keeps ?a_broken ?l_broken ?c_broken ?k_broken ?a__law_blend ?l__law_blend ?c__law_blend ?k__law_blend ?a__law_pot ?l__law_pot ?c__law_pot ?k__law_pot ?a__law_draw ?l__law_draw ?c__law_draw ?k__law_draw ?a__law_four ?l__law_four ?c__law_four ?k__law_four ?a__law_circle_right ?l__law_circle_right ?c__law_circle_right ?k__law_circle_right ?a__law_drawing_right ?l__law_drawing_right ?c__law_drawing_right ?k__law_drawing_right ?a_law ?l_law ?c_law ?k_law ?pg_Circle ?hd_Circle ?po_Circle ?sa_Circle ?mkk_Circle ?kc_Circle ?ha_Circle ?hn_Circle ?ht_Circle ?hm_Circle ?na_Circle_members ?na_Circle_bars ?na_Circle_past ?na_Circle_gap ?na_Circle_houses ?na_Circle_names_told ?na_Circle_barred ?na_Circle_gone_by ?pg_Drawing ?hd_Drawing ?po_Drawing ?sa_Drawing ?mkk_Drawing ?kc_Drawing ?ha_Drawing ?hn_Drawing ?ht_Drawing ?hm_Drawing ?na_Drawing_pairs ?g_LETTERS ?g_MOST_LETTERS ?g_MOST_FIGURES ?n_len ?n_abs ?n_all ?n_range ?n_isinstance ?n_list ?n_tuple ?n_str ?n_sorted ?n_zip ?n_set ?n_max ?n_dict ?n_int ?n_bool)
    (case aC_Circle => k_is)
    (case aC_Drawing => k_is)
    (case a_is_name => k_is)
    (case l_is_name => k_is)
    (case c_is_name => k_is)
    (case k_is_name => k_is)
    (case a_is_pair => k_is)
    (case l_is_pair => k_is)
    (case c_is_pair => k_is)
    (case k_is_pair => k_is)
    (case a_does_rise => k_is)
    (case l_does_rise => k_is)
    (case c_does_rise => k_is)
    (case k_does_rise => k_is)
    (case a_are_pairs => k_is)
    (case l_are_pairs => k_is)
    (case c_are_pairs => k_is)
    (case k_are_pairs => k_is)
    (case a_is_member => k_is)
    (case l_is_member => k_is)
    (case c_is_member => k_is)
    (case k_is_member => k_is)
    (case a_are_members => k_is)
    (case l_are_members => k_is)
    (case c_are_members => k_is)
    (case k_are_members => k_is)
    (case a_are_years => k_is)
    (case l_are_years => k_is)
    (case c_are_years => k_is)
    (case k_are_years => k_is)
    (case a_is_circle => k_is)
    (case l_is_circle => k_is)
    (case c_is_circle => k_is)
    (case k_is_circle => k_is)
    (case a_Circle___init__ => k_is)
    (case i_Circle___init__ => k_is)
    (case l_Circle___init__ => k_is)
    (case c_Circle___init__ => k_is)
    (case k_Circle___init__ => k_is)
    (case dv_Circle___init__ => refine' MP.dfl3 ?lk ?d1 ?d2 ?d3; (case lk => k_is); (case d1 => rfl); (case d2 => rfl); (case d3 => exact ⟨_, rfl⟩))
    (case a_Circle___eq__ => k_is)
    (case i_Circle___eq__ => k_is)
    (case l_Circle___eq__ => k_is)
    (case c_Circle___eq__ => k_is)
    (case k_Circle___eq__ => k_is)
    (case a_Circle_names => k_is)
    (case i_Circle_names => k_is)
    (case l_Circle_names => k_is)
    (case c_Circle_names => k_is)
    (case k_Circle_names => k_is)
    (case a_Circle_house_of => k_is)
    (case i_Circle_house_of => k_is)
    (case l_Circle_house_of => k_is)
    (case c_Circle_house_of => k_is)
    (case k_Circle_house_of => k_is)
    (case a_Circle_reason => k_is)
    (case i_Circle_reason => k_is)
    (case l_Circle_reason => k_is)
    (case c_Circle_reason => k_is)
    (case k_Circle_reason => k_is)
    (case a_Circle_takers => k_is)
    (case i_Circle_takers => k_is)
    (case l_Circle_takers => k_is)
    (case c_Circle_takers => k_is)
    (case k_Circle_takers => k_is)
    (case a_Circle_givers => k_is)
    (case i_Circle_givers => k_is)
    (case l_Circle_givers => k_is)
    (case c_Circle_givers => k_is)
    (case k_Circle_givers => k_is)
    (case a_without => k_is)
    (case l_without => k_is)
    (case c_without => k_is)
    (case k_without => k_is)
    (case a_with_one => k_is)
    (case l_with_one => k_is)
    (case c_with_one => k_is)
    (case k_with_one => k_is)
    (case a_are_drawn => k_is)
    (case l_are_drawn => k_is)
    (case c_are_drawn => k_is)
    (case k_are_drawn => k_is)
    (case a_Drawing___init__ => k_is)
    (case i_Drawing___init__ => k_is)
    (case l_Drawing___init__ => k_is)
    (case c_Drawing___init__ => k_is)
    (case k_Drawing___init__ => k_is)
    (case a_Drawing_taker_of => k_is)
    (case i_Drawing_taker_of => k_is)
    (case l_Drawing_taker_of => k_is)
    (case c_Drawing_taker_of => k_is)
    (case k_Drawing_taker_of => k_is)
    (case a_Drawing_giver_of => k_is)
    (case i_Drawing_giver_of => k_is)
    (case l_Drawing_giver_of => k_is)
    (case c_Drawing_giver_of => k_is)
    (case k_Drawing_giver_of => k_is)
    (case a_keeps => k_is)
    (case l_keeps => k_is)
    (case c_keeps => k_is)
    (case k_keeps => k_is)
    (case a_broken => k_is)
    (case l_broken => k_is)
    (case c_broken => k_is)
    (case k_broken => k_is)
    (case a__law_blend => k_is)
    (case l__law_blend => k_is)
    (case c__law_blend => k_is)
    (case k__law_blend => k_is)
    (case a__law_pot => k_is)
    (case l__law_pot => k_is)
    (case c__law_pot => k_is)
    (case k__law_pot => k_is)
    (case a__law_draw => k_is)
    (case l__law_draw => k_is)
    (case c__law_draw => k_is)
    (case k__law_draw => k_is)
    (case a__law_four => k_is)
    (case l__law_four => k_is)
    (case c__law_four => k_is)
    (case k__law_four => k_is)
    (case a__law_circle_right => k_is)
    (case l__law_circle_right => k_is)
    (case c__law_circle_right => k_is)
    (case k__law_circle_right => k_is)
    (case a__law_drawing_right => k_is)
    (case l__law_drawing_right => k_is)
    (case c__law_drawing_right => k_is)
    (case k__law_drawing_right => k_is)
    (case a_law => k_is)
    (case l_law => k_is)
    (case c_law => k_is)
    (case k_law => k_is)
    (case pg_Circle => k_is)
    (case hd_Circle => k_is)
    (case po_Circle => k_is)
    (case sa_Circle => k_is)
    (case mkk_Circle => k_is)
    (case kc_Circle => k_is)
    (case ha_Circle => k_is)
    (case hn_Circle => k_is)
    (case ht_Circle => k_is)
    (case hm_Circle => k_is)
    (case na_Circle_members => k_is)
    (case na_Circle_bars => k_is)
    (case na_Circle_past => k_is)
    (case na_Circle_gap => k_is)
    (case na_Circle_houses => k_is)
    (case na_Circle_names_told => k_is)
    (case na_Circle_barred => k_is)
    (case na_Circle_gone_by => k_is)
    (case pg_Drawing => k_is)
    (case hd_Drawing => k_is)
    (case po_Drawing => k_is)
    (case sa_Drawing => k_is)
    (case mkk_Drawing => k_is)
    (case kc_Drawing => k_is)
    (case ha_Drawing => k_is)
    (case hn_Drawing => k_is)
    (case ht_Drawing => k_is)
    (case hm_Drawing => k_is)
    (case na_Drawing_pairs => k_is)
    (case g_LETTERS => k_is)
    (case g_MOST_LETTERS => k_is)
    (case g_MOST_FIGURES => k_is)
    (case n_len => k_is)
    (case n_abs => k_is)
    (case n_all => k_is)
    (case n_range => k_is)
    (case n_isinstance => k_is)
    (case n_list => k_is)
    (case n_tuple => k_is)
    (case n_str => k_is)
    (case n_sorted => k_is)
    (case n_zip => k_is)
    (case n_set => k_is)
    (case n_max => k_is)
    (case n_dict => k_is)
    (case n_int => k_is)
    (case n_bool => k_is)
