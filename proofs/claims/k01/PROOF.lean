import PyProof.Rows.All
import Wide.All
import OpenK.AllK
import Wide.FinOn
import HandS.ExcInit
import HandS.ExcIs
import HandS.ExcField
import HandS.WordsExc
import HandS.ForMost
import HandS.Exc
import HandS.EndBits
import HandS.Wide
import HandS.TupAny
import HandS.TupMul
import HandS.Deep
import HandS.FStr
import HandS.RaiseMore
import HandS.IsInst
import HandS.ExcOwn
import HandS.Comp
import PyProof.CallFns
import HandS.Dict
import HandS.Small
import HandS.WordsDict
import KE.SortData
import PyProof.Rows.SortWalk
import HandS.Conv
import HandS.More
import KE.KDictSum
import PyProof.TupleOfSeq
import KE.KCallOwn
import HandS.ExcValue
import PyProof.StrOps2
import PyProof.ReprRoads
import HandS.Text
import HandS.StrMore
import PyProof.Rows.RuleB_pow
import HandS.Zip
import HandS.TupLe
import HandS.Strs
import HandS.Style
import HandS.Set
import HandS.SetFor
import KE.OsSortAny
import KE.KRevSl
import PyProof.ListRange
import PyProof.StrWalks
import HandS.Sort
import HandS.TupSets
import PyProof.Rows.StrCut
import PyProof.StrLawsChain
import KE.SortLaws
import PyProof.ReprLen
import PySem.Challenge.RW_lotgivers_k01_names_and_circles_made
set_option Elab.async false
set_option linter.all false
set_option maxRecDepth 100000
set_option maxHeartbeats 4000000
/-! an own exception class over ValueError, made with keywords -/
namespace PySem.MPX
open PySem PySem.Spec PySem.HandSPX
section
variable {prog : Program} {w : World} {M : Model} {A : Around} {E : Value → Shared → Prop} {R : Result → Shared → Prop} {h : Heap} {g : Array GenState} {d : Drawn} {t : Nat} {os : OsState}
variable {nm q : Str} {C N : Addr} {bs bm bmB : List Value} {hdct : Bool} {sn : List Str} {sub : List Value} {ab : Bool} {col : Option Bool} {dd : Option Addr} {k0 k1 k2 k3 k5 : Option Value} {B newId initId : String}
theorem check_new_kw (F : ExcBaseFacts B newId initId bmB) (hT : ∀ X : String, bm.contains (.type X) = bmB.contains (.type X)) {rest : List Value} {kw : List (Str × Value)} {Q : Unit → Shared → Prop}
    (hC : h.get? C = some (excClassObj nm q C N bs bm hdct sn sub ab col dd k0 k1 k2 k3 k5 newId)) (hq : Q () ⟨h, g, d, t, os⟩) : wpAny M A (checkBuiltinCall newId ⟨.ref C :: rest, kw⟩) Q E ⟨h, g, d, t, os⟩ := by
  have hcont : (Value.ref C :: bm).contains (.type B) = true := by rw [List.contains_cons, hT, F.hasB, Bool.or_true]
  have hstar := F.noStar
  simp only [checkBuiltinCall, F.newKind, F.newSplit, F.newRow]
  repeat (first | refine wpAny_loadPart_at hC ?_ | (refine wpAny_isSubtype_exc hC ?_; rw [hcont]) | refine wpAny_staticBase_exc hC ?_ | refine wpAny_madeBy_exc hC ?_ | simp only [bne_self_eq_false, Bool.false_eq_true, if_false] | wp_step)
  exact hq
theorem new_kw (F : ExcBaseFacts B newId initId bmB) (hT : ∀ X : String, bm.contains (.type X) = bmB.contains (.type X)) {rest : List Value} {kw : List (Str × Value)}
    (hC : h.get? C = some (excClassObj nm q C N bs bm hdct sn sub ab col dd k0 k1 k2 k3 k5 newId))
    (hq : R (.ok (.ret (.ref (h.objs.size + 1)))) ⟨(h.push { cls := .type "tuple", data := .seq rest.toArray }).push
      { cls := .ref C, data := .fields #[.ref h.objs.size, .none, .none, .none, .bool false, .none] }, g, d, t, os⟩) (hrest : rest.length ≤ sizeLine) :
    codeAny (model prog w) A (.builtin newId ⟨.ref C :: rest, kw⟩) R ⟨h, g, d, t, os⟩ := by
  have hends := F.ends
  have hcB : (Value.ref C :: bm).contains (.type B) = true := by rw [List.contains_cons, hT, F.hasB, Bool.or_true]
  have hcA : (Value.ref C :: bm).contains (.type "AttributeError") = false := by rw [List.contains_cons, hT, F.noAttr]; rfl
  have hcN : (Value.ref C :: bm).contains (.type "NameError") = false := by rw [List.contains_cons, hT, F.noName]; rfl
  refine codeAny_builtinAt F.entry ?_
  unfold Builtin.«BaseException.__new__»
  refine wpAt_bind ?_
  show wpAt _ _ _ (stack >>= _) _ _ _
  refine wpAt_bind (wpAt_stack fun p below => wpAt_of_wpAny ?_)
  wp_walk
  refine wpAt_of_wpAny ?_
  rw [F.owner]
  repeat (first | with_reducible refine wpAny_madeHere_exc F.canon hC ?_ | with_reducible refine wpAny_loadPart_at hC ?_ | (with_reducible refine wpAny_isSubtype_exc hC ?_; first | rw [hcB] | rw [hcA] | rw [hcN]) | wp_step)
  show R _ _
  rw [Heap.size_push]
  exact hq
theorem type_call_kw (F : ExcBaseFacts B newId initId bmB) (hT : ∀ X : String, bm.contains (.type X) = bmB.contains (.type X)) {rest : List Value} {kw : List (Str × Value)} {fI : Addr} {Q : Fin → Shared → Prop}
    (hC : h.get? C = some (excClassObj nm q C N bs bm hdct sn sub ab col dd k0 k1 k2 k3 k5 newId))
    (hi : W.Looks (model prog w) h (typeLookup (.ref C) "__init__") (some (.ref fI))) (hb : ∀ self, W.Looks (model prog w) h (bindSpecial (.ref fI) self) (.ref fI, [self])) (hrest : rest.length ≤ sizeLine)
    (hq : codeAny (model prog w) A (.call (.ref fI) ⟨.ref (h.objs.size + 1) :: rest, kw⟩)
      (fun r s' => match r with | .ok (.ret v) => v = .none ∧ Q (.done (.ret (.ref (h.objs.size + 1)))) s' | .ok _ => False | .error e => E e s')
      ⟨(h.push (W.kdv_tup rest)).push (excO C h.objs.size), g, d, t, os⟩) :
    wpAny (model prog w) A (Builtin.«type.__call__» ⟨.ref C :: rest, kw⟩) Q E ⟨h, g, d, t, os⟩ := by
  repeat (first | with_reducible refine wpAny_loadPart_at hC ?_ | with_reducible refine wpAny_madeBy_exc hC ?_ | wp_step)
  refine codeAny_call_builtin_code (Code.quiet_builtin _ F.quiet) (check_new_kw F hT hC ?_)
  refine new_kw F hT hC ?_ hrest
  show wpAny _ _ _ _ _ _
  have k : ∀ b o, h.get? b = some o → ((h.push (W.kdv_tup rest)).push (excO C h.objs.size)).get? b = some o := fun b o e => Heap.get?_push_of_some _ (Heap.get?_push_of_some _ e)
  have hC₁ := k _ _ hC
  have hget : ((h.push (W.kdv_tup rest)).push (excO C h.objs.size)).get? (h.objs.size + 1) = some (excO C h.objs.size) := by heap_get
  have hcC : (Value.ref C :: bm).contains (.ref C) = true := by simp
  have i1 := hi.keeps k
  have b1 := (hb (.ref (h.objs.size + 1))).keeps k
  unfold isInstance
  repeat (first | with_reducible refine wpAny_loadPart_at hget ?_ | (with_reducible refine wpAny_isSubtype_exc hC₁ ?_; rw [hcC]) | wp_step)
  show wpAny _ _ (typeLookup (.ref C) _) _ _ _
  refine i1.at ?_
  refine wpAny_holding (wpAny_bind (b1.at ?_))
  refine wpAny_bind (wpAny_call (codeAny_mono hq fun r s' z => ?_))
  rcases r with e | (v | _ | _ | _) <;> first | exact z | exact z.elim | skip
  obtain ⟨rfl, z⟩ := z
  first
    | exact wpAny_pure (wpAny_pure z)
    | (wp_walk; exact z)
theorem call_kw (F : ExcBaseFacts B newId initId bmB) (hT : ∀ X : String, bm.contains (.type X) = bmB.contains (.type X)) {rest : List Value} {kw : List (Str × Value)} {fI : Addr}
    (hC : h.get? C = some (excClassObj nm q C N bs bm hdct sn sub ab col dd k0 k1 k2 k3 k5 newId))
    (hi : W.Looks (model prog w) h (typeLookup (.ref C) "__init__") (some (.ref fI))) (hb : ∀ self, W.Looks (model prog w) h (bindSpecial (.ref fI) self) (.ref fI, [self])) (hrest : rest.length ≤ sizeLine)
    (hq : codeAny (model prog w) (A.under (.builtin "type.__call__" ⟨.ref C :: rest, kw⟩)) (.call (.ref fI) ⟨.ref (h.objs.size + 1) :: rest, kw⟩) (W.InitBack (h.objs.size + 1) R)
      ⟨(h.push (W.kdv_tup rest)).push (excO C h.objs.size), g, d, t, os⟩) :
    codeAny (model prog w) A (.call (.ref C) ⟨rest, kw⟩) R ⟨h, g, d, t, os⟩ := by
  have f1 := tc_lookup
  have f2 := tc_bind (.ref C)
  have hTy : (⟨h, g, d, t, os⟩ : Shared).TypeIs (.ref C) "type" := ⟨_, hC, rfl⟩
  refine codeAny_of_tree ?_
  show wpAny _ _ (callAny (.ref C) _) _ _ _
  repeat (any_goals (first | assumption | with_reducible refine wpAny_loadPart_at hC ?_ | wp_step))
  refine ⟨rfl, ?_⟩
  refine codeAny_call_builtin_at (Code.quiet_builtin _ (by decide +kernel)) entry_typeCall (wpAny_check_type_call_sub hC (type_call_kw F hT hC hi hb hrest ?_))
  refine codeAny_mono hq fun r s' z => ?_
  rcases r with e | (v | _ | _ | _) <;> exact z
end
end PySem.MPX

namespace MP
open PySem PySem.Spec PyProof.Rows L2

/-- an own class that takes ValueError's __init__ over -/
structure LInit (K : PySem.W.Frag) (L : Addr) (mc : Value) : Prop where
  rd : PySem.W.readsIn K L mc = true
  ga : PySem.W.specialIn K (.ref L) "__getattribute__" = some (some (.builtin "type.__getattribute__"))
  at_ : PySem.W.findCls K (.ref L) mc "__init__" = some (.val (.builtin "ValueError.__init__"))
section
variable {X : Cx} {e : Expr} {es : List Expr} {ta : TA} {p1 p2 pos : Pos}
theorem pe_loinit {pl : Sem Bool} {x : Str} {L : Addr} {mc : Value} (T : LInit X.K L mc) (hg : Gl X x) (hm : X.mg x = some (.ref L)) (ha : PA X (e :: es) ta)
    (hdb : (x == ("__debug__" : Str)) = false := by decide)
    (hc : eval (.Call (.Attribute (.Name x p1) "__init__" p2) (e :: es) [] pos) X.env = (do
      let ov ← eval (.Name x p1) X.env
      standAt p2.atName
      let (f, first) ← holding [ov] (getMethod ov "__init__" pl)
      callWith pos f first (backTo pos (starEach (e :: es) X.env)) (backToKw pos (keywordEach [] X.env))) := by rfl)
    (he : starEach (e :: es) X.env = (false, eval e X.env) :: starEach es X.env := by rfl) (hpl : (backTo pos (starEach es X.env)).any (·.1) = false := by rfl) :
    PE X (.Call (.Attribute (.Name x p1) "__init__" p2) (e :: es) [] pos) (tVeI X.K ta) := by
  refine ⟨fun pins s σ H Q I h => ?_⟩
  refine PySem.W.methodCall_KW (ld_glob I hg hm ?_ hdb) hc
  refine PySem.W.method_cls I.kIn T.ga (PySem.W.cls_value I.kIn T.rd T.at_ (by decide +kernel) ?_)
  show wpAny _ _ (callWith pos (Value.builtin "ValueError.__init__") [] (backTo pos (starEach (e :: es) X.env)) []) _ _ _
  refine PyProof.Rows.callWith_method1 (thn (ha.run pos pins _ σ H _ (I.tok _) h) fun us s1 ⟨vs, H1, I1, r1, a, C, ws, ev, hl, T, ea, q⟩ => ?_) he hpl
  subst ev
  cases r1 with
  | @cons _ u0 _ ur ra rw' =>
    obtain rfl : u0 = Value.ref a := ra
    have hlen : ur.length ≤ sizeLine := by
      rw [← Paired.length rw', sizeLine_eq]
      omega
    exact oinit_ok T I1 ea hlen fun s' J => ⟨.non, H1, J, rfl, q⟩
end

/-- __init__ of one field, of two -/
def spE (K : PySem.W.Frag) (fs : List Str) : Sp := fun vs H Q _ => ∃ (e C : Addr) (ys : List V), vs = .ref e :: ys ∧ ys.length = fs.length ∧ OexC K C ∧ (∀ f ∈ fs, PySem.W.findIn K (.ref C) f = some none) ∧ H e = some (exo e C none) ∧
  ∀ dx, H dx = none → dx ≠ e → Q .non (upd (upd H dx (exd dx (fs.zip ys).reverse)) e (exo e C (some dx)))
end MP

namespace MP
open PySem PySem.Spec PyProof.Rows L2

/-- deep data: tuples, lists that nobody changes any more, dicts and objects likewise; ref: an object of the store -/
inductive D where
  | non | bl (b : Bool) | int (i : Int) | str (s : Str)
  | tup (xs : List D) | ftup (xs : List D) | lst (xs : List D) | dct (t : Bool) (kvs : List (D × D)) | obj (C : Addr) (fs : List (Str × D)) | exn (C : Addr) (fs : List (Str × D)) | ref (i : Nat)

inductive O where
  | lst (xs : List D) | dct (t : Bool) (kvs : List (D × D)) | ins (C : Addr) (fs : List (Str × D))

abbrev Sto := List O
abbrev Ev := List (Option D)

inductive R (α : Type) where
  | ok (a : α) (S : Sto)
  | exc (C : Addr) (fs : List (Str × D)) (S : Sto)
  | bad
def R.bind {α β : Type} (r : R α) (f : α → Sto → R β) : R β := match r with
  | .ok a S => f a S
  | .exc C fs S => .exc C fs S
  | .bad => .bad
theorem bind_ok {α β : Type} (a : α) (S : Sto) (f : α → Sto → R β) : (R.ok a S).bind f = f a S := rfl
theorem bind_exc {α β : Type} (C : Addr) (fs : List (Str × D)) (S : Sto) (f : α → Sto → R β) : (R.exc C fs S).bind f = .exc C fs S := rfl
theorem bind_bad {α β : Type} (f : α → Sto → R β) : (R.bad : R α).bind f = .bad := rfl

def keyD : Key → D
  | .inl i => .int i
  | .inr s => .str s

/-- at a: an exception of the class at C, its dict (none | at d) -/
def ExV (C : Addr) (d : Option Addr) (a : Addr) : HO := .ext fun h => ∃ (oe : Obj) (vs : Array Value), h.get? a = some oe ∧ Zc (.ref C) d oe ∧ oe.data = .fields vs
/-- at dd: the dict of an exception -/
def XdAt (H : Hp) (dd : Addr) (fs : List (Str × V)) : Prop := H dd = some (exd dd fs) ∨ H dd = some (.xd fs)
theorem XdAt.has {H : Hp} {dd : Addr} {fs : List (Str × V)} (h : XdAt H dd fs) : ∃ o, H dd = some o := by
  rcases h with h | h
  · exact ⟨_, h⟩
  · exact ⟨_, h⟩

mutual
inductive VR (K : PySem.W.Frag) (m : List Addr) (H : Hp) : V → D → Prop where
  | non : VR K m H .non .non
  | bl (b : Bool) : VR K m H (.bl b) (.bl b)
  | int (i : Int) : VR K m H (.int i) (.int i)
  | str (s : Str) : VR K m H (.str s) (.str s)
  | tup {a : Addr} {vs : List V} {ds : List D} (h : H a = some (.tup vs)) (r : VRs K m H vs ds) : VR K m H (.ref a) (.tup ds)
  | ftup {a : Addr} {vs : List V} {ds : List D} {o : Obj} (hd : o.dict = none) (h : H a = some (.frz o (.tup vs))) (r : VRs K m H vs ds) : VR K m H (.ref a) (.ftup ds)
  | lst {a : Addr} {vs : List V} {ds : List D} (n : a ∉ m) (h : Rd H a (.lst vs)) (r : VRs K m H vs ds) : VR K m H (.ref a) (.lst ds)
  | lstK {a : Addr} {vs : List V} {ds : List D} {o : Obj} {its : Array Value} {n : Nat} (hk : K.lookup a = some o) (h1 : o.cls = .type "list") (h2 : o.dict = none) (h3 : o.data = .seq its n) (h4 : its.size ≤ sizeLine) (h5 : Vals vs its.toList) (r : VRs K m H vs ds) : VR K m H (.ref a) (.lst ds)
  | dct {a : Addr} {vs : List (Key × V)} {ds : List (D × D)} (n : a ∉ m) (h : H a = some (.dK vs)) (r : VDk K m H vs ds) : VR K m H (.ref a) (.dct false ds)
  | dctT {a : Addr} {vs : List (List Key × V)} {ds : List (D × D)} (n : a ∉ m) (h : H a = some (.dT vs)) (r : VDt K m H vs ds) : VR K m H (.ref a) (.dct true ds)
  | obj {a C dx : Addr} {fs : List (Str × V)} {gs : List (Str × D)} (n : a ∉ m) (h : H a = some (.ins C dx fs)) (r : VFs K m H fs gs) : VR K m H (.ref a) (.obj C gs)
  | exn0 {a C : Addr} (n : a ∉ m) (h : H a = some (ExV C none a)) : VR K m H (.ref a) (.exn C [])
  | exnD {a C dd : Addr} {fs : List (Str × V)} {gs : List (Str × D)} (n : a ∉ m) (nd : dd ∉ m) (h : H a = some (ExV C (some dd) a)) (hd : XdAt H dd fs) (r : VFs K m H fs gs) : VR K m H (.ref a) (.exn C gs)
  | ref {i : Nat} {a : Addr} (h : m[i]? = some a) : VR K m H (.ref a) (.ref i)
inductive VRs (K : PySem.W.Frag) (m : List Addr) (H : Hp) : List V → List D → Prop where
  | nil : VRs K m H [] []
  | cons {v : V} {d : D} {vs : List V} {ds : List D} (h : VR K m H v d) (r : VRs K m H vs ds) : VRs K m H (v :: vs) (d :: ds)
inductive VFs (K : PySem.W.Frag) (m : List Addr) (H : Hp) : List (Str × V) → List (Str × D) → Prop where
  | nil : VFs K m H [] []
  | cons {f : Str} {v : V} {d : D} {vs : List (Str × V)} {ds : List (Str × D)} (h : VR K m H v d) (r : VFs K m H vs ds) : VFs K m H ((f, v) :: vs) ((f, d) :: ds)
inductive VDk (K : PySem.W.Frag) (m : List Addr) (H : Hp) : List (Key × V) → List (D × D) → Prop where
  | nil : VDk K m H [] []
  | cons {k : Key} {v : V} {d : D} {vs : List (Key × V)} {ds : List (D × D)} (h : VR K m H v d) (r : VDk K m H vs ds) : VDk K m H ((k, v) :: vs) ((keyD k, d) :: ds)
inductive VDt (K : PySem.W.Frag) (m : List Addr) (H : Hp) : List (List Key × V) → List (D × D) → Prop where
  | nil : VDt K m H [] []
  | cons {k : List Key} {v : V} {d : D} {vs : List (List Key × V)} {ds : List (D × D)} (h : VR K m H v d) (r : VDt K m H vs ds) : VDt K m H ((k, v) :: vs) ((.tup (k.map keyD), d) :: ds)
end

/-- from (m, H) on: the store's places stay and grow by new ones; what is not in the store stays -/
structure Ext (m : List Addr) (H : Hp) (m' : List Addr) (H' : Hp) : Prop where
  pre : ∃ l, m' = m ++ l
  new : ∀ a ∈ m', a ∈ m ∨ H a = none
  keep : ∀ a o, a ∉ m → H a = some o → H' a = some o

inductive OR (K : PySem.W.Frag) (m : List Addr) (H : Hp) (a : Addr) : O → Prop where
  | lst {vs : List V} {ds : List D} (h : H a = some (.lst vs)) (r : VRs K m H vs ds) : OR K m H a (.lst ds)
  | dct {vs : List (Key × V)} {ds : List (D × D)} (h : H a = some (.dK vs)) (r : VDk K m H vs ds) : OR K m H a (.dct false ds)
  | dctT {vs : List (List Key × V)} {ds : List (D × D)} (h : H a = some (.dT vs)) (r : VDt K m H vs ds) : OR K m H a (.dct true ds)
  | ins {C dx : Addr} {fs : List (Str × V)} {gs : List (Str × D)} (h : H a = some (.ins C dx fs)) (r : VFs K m H fs gs) : OR K m H a (.ins C gs)

structure SR (K : PySem.W.Frag) (m : List Addr) (H : Hp) (S : Sto) : Prop where
  nd : m.Nodup
  len : m.length = S.length
  at_ : ∀ (i : Nat) (a : Addr) (o : O), m[i]? = some a → S[i]? = some o → OR K m H a o

theorem OR.mut {K : PySem.W.Frag} {m : List Addr} {H : Hp} {a : Addr} {o : O} (h : OR K m H a o) : Mut (H a) := by
  cases h with
  | lst h _ => rw [h]; trivial
  | dct h _ => rw [h]; trivial
  | dctT h _ => rw [h]; trivial
  | ins h _ => rw [h]; trivial
theorem SR.mut {K : PySem.W.Frag} {m : List Addr} {H : Hp} {S : Sto} (x : SR K m H S) {a : Addr} (h : a ∈ m) : Mut (H a) := by
  obtain ⟨i, hi, e⟩ := List.mem_iff_getElem.mp h
  have hs : i < S.length := x.len ▸ hi
  exact (x.at_ i a S[i] (by rw [List.getElem?_eq_getElem hi, e]) (List.getElem?_eq_getElem hs)).mut
theorem not_mut_tup {H : Hp} {a : Addr} {xs : List V} (h : Rd H a (.tup xs)) : ¬ Mut (H a) := by
  rcases h with h | ⟨o, h⟩
  · rw [h]; exact fun z => z
  · rw [h]; exact fun z => z
theorem Ext.refl {m : List Addr} {H : Hp} : Ext m H m H := ⟨⟨[], by simp⟩, fun a h => .inl h, fun _ _ _ h => h⟩
theorem Ext.sub {m m' : List Addr} {H H' : Hp} (e : Ext m H m' H') {a : Addr} (h : a ∈ m) : a ∈ m' := by
  obtain ⟨l, e⟩ := e.pre
  rw [e]; exact List.mem_append_left _ h
theorem Ext.trans {m m1 m2 : List Addr} {H H1 H2 : Hp} (a : Ext m H m1 H1) (b : Ext m1 H1 m2 H2) : Ext m H m2 H2 := by
  have key : ∀ c o, c ∉ m → H c = some o → c ∉ m1 := fun c o n e z => by
    rcases a.new c z with y | y
    · exact n y
    · rw [y] at e; cases e
  refine ⟨?_, fun c hc => ?_, fun c o n e => b.keep c o (key c o n e) (a.keep c o n e)⟩
  · obtain ⟨l, e⟩ := a.pre
    obtain ⟨k, f⟩ := b.pre
    exact ⟨l ++ k, by rw [f, e, List.append_assoc]⟩
  · by_cases hm : c ∈ m
    · exact .inl hm
    · right
      cases q : H c with
      | none => rfl
      | some o =>
        rcases b.new c hc with y | y
        · exact absurd y (key c o hm q)
        · rw [a.keep c o hm q] at y; cases y
theorem Ext.rd {m m' : List Addr} {H H' : Hp} (e : Ext m H m' H') {a : Addr} {u : HO} (n : a ∉ m) (h : Rd H a u) : Rd H' a u := by
  rcases h with h | ⟨o, h⟩
  · exact .inl (e.keep a _ n h)
  · exact .inr ⟨o, e.keep a _ n h⟩
theorem Rd.has {H : Hp} {a : Addr} {u : HO} (h : Rd H a u) : ∃ o, H a = some o := by
  rcases h with h | ⟨o, h⟩
  · exact ⟨_, h⟩
  · exact ⟨_, h⟩
theorem Ext.nin {m m' : List Addr} {H H' : Hp} (e : Ext m H m' H') {a : Addr} (n : a ∉ m) (h : ∃ o, H a = some o) : a ∉ m' := fun z => by
  obtain ⟨o, h⟩ := h
  rcases e.new a z with y | y
  · exact n y
  · rw [y] at h; cases h
theorem Ext.get {m m' : List Addr} {H H' : Hp} (e : Ext m H m' H') {i : Nat} {a : Addr} (h : m[i]? = some a) : m'[i]? = some a := by
  obtain ⟨l, e⟩ := e.pre
  rw [e, List.getElem?_append_left (List.getElem?_eq_some_iff.mp h).1]
  exact h

section
variable {K : PySem.W.Frag} {m m' : List Addr} {H H' : Hp}
theorem frz_ext (e : Ext m H m' H') (mu : ∀ a ∈ m, Mut (H a)) {a : Addr} {o : Obj} {vs : List V} (h : H a = some (.frz o (.tup vs))) : H' a = some (.frz o (.tup vs)) :=
  e.keep _ _ (fun z => not_mut_tup (.inr ⟨o, h⟩) (mu a z)) h
theorem Rd.sup {H Hx : Hp} {a : Addr} {u : HO} (sup : ∀ b o, H b = some o → Hx b = some o) (h : Rd H a u) : Rd Hx a u := h.imp (sup _ _) fun ⟨o, e⟩ => ⟨o, sup _ _ e⟩
theorem SqT.rd {K : PySem.W.Frag} {H : Hp} {a : Addr} {xs : List V} (h : Rd H a (.tup xs)) : SqT K H a xs := .inl h
theorem tup_ext (e : Ext m H m' H') (mu : ∀ a ∈ m, Mut (H a)) {a : Addr} {vs : List V} (h : H a = some (.tup vs)) : H' a = some (.tup vs) :=
  e.keep _ _ (fun z => not_mut_tup (.inl h) (mu a z)) h
mutual
theorem VR.ext (e : Ext m H m' H') (mu : ∀ a ∈ m, Mut (H a)) {v : V} {d : D} : VR K m H v d → VR K m' H' v d
  | .non => .non
  | .bl b => .bl b
  | .int i => .int i
  | .str s => .str s
  | .tup h r => .tup (tup_ext e mu h) (VRs.ext e mu r)
  | .ftup hd h r => .ftup hd (frz_ext e mu h) (VRs.ext e mu r)
  | .lst n h r => .lst (e.nin n (Rd.has h)) (e.rd n h) (VRs.ext e mu r)
  | .lstK hk h1 h2 h3 h4 h5 r => .lstK hk h1 h2 h3 h4 h5 (VRs.ext e mu r)
  | .dct n h r => .dct (e.nin n ⟨_, h⟩) (e.keep _ _ n h) (VDk.ext e mu r)
  | .dctT n h r => .dctT (e.nin n ⟨_, h⟩) (e.keep _ _ n h) (VDt.ext e mu r)
  | .obj n h r => .obj (e.nin n ⟨_, h⟩) (e.keep _ _ n h) (VFs.ext e mu r)
  | .exn0 n h => .exn0 (e.nin n ⟨_, h⟩) (e.keep _ _ n h)
  | .exnD n nd h hd r => .exnD (e.nin n ⟨_, h⟩) (e.nin nd hd.has) (e.keep _ _ n h) (hd.imp (e.keep _ _ nd) (e.keep _ _ nd)) (VFs.ext e mu r)
  | .ref h => .ref (e.get h)
theorem VRs.ext (e : Ext m H m' H') (mu : ∀ a ∈ m, Mut (H a)) {v : List V} {d : List D} : VRs K m H v d → VRs K m' H' v d
  | .nil => .nil
  | .cons h r => .cons (VR.ext e mu h) (VRs.ext e mu r)
theorem VFs.ext (e : Ext m H m' H') (mu : ∀ a ∈ m, Mut (H a)) {v : List (Str × V)} {d : List (Str × D)} : VFs K m H v d → VFs K m' H' v d
  | .nil => .nil
  | .cons h r => .cons (VR.ext e mu h) (VFs.ext e mu r)
theorem VDk.ext (e : Ext m H m' H') (mu : ∀ a ∈ m, Mut (H a)) {v : List (Key × V)} {d : List (D × D)} : VDk K m H v d → VDk K m' H' v d
  | .nil => .nil
  | .cons h r => .cons (VR.ext e mu h) (VDk.ext e mu r)
theorem VDt.ext (e : Ext m H m' H') (mu : ∀ a ∈ m, Mut (H a)) {v : List (List Key × V)} {d : List (D × D)} : VDt K m H v d → VDt K m' H' v d
  | .nil => .nil
  | .cons h r => .cons (VR.ext e mu h) (VDt.ext e mu r)
end
end

/-- the slots -/
structure ER (K : PySem.W.Frag) (m : List Addr) (H : Hp) (σ : L2.St) (ρ : Ev) : Prop where
  at_ : ∀ (i : Nat) (d : D), ρ[i]? = some (some d) → ∃ v, σ[i]? = some (some v) ∧ VR K m H v d
  len : ρ.length = σ.length
theorem ER.ext {K : PySem.W.Frag} {m m' : List Addr} {H H' : Hp} {σ : L2.St} {ρ : Ev} (r : ER K m H σ ρ) (e : Ext m H m' H') (mu : ∀ a ∈ m, Mut (H a)) : ER K m' H' σ ρ := ⟨fun i d h => by
  obtain ⟨v, h1, h2⟩ := r.at_ i d h
  exact ⟨v, h1, h2.ext e mu⟩, r.len⟩
theorem ER.set {K : PySem.W.Frag} {m : List Addr} {H : Hp} {σ : L2.St} {ρ : Ev} (r : ER K m H σ ρ) {i : Nat} {v : V} {d : D} (h : VR K m H v d) : ER K m H (σ.set i (some v)) (ρ.set i (some d)) := ⟨fun j d' e => by
  have hl := r.len
  by_cases hj : i = j
  · subst hj
    have hi : i < ρ.length := by
      have := (List.getElem?_eq_some_iff.mp e).1
      simpa using this
    rw [List.getElem?_set_self hi] at e
    cases e
    exact ⟨v, by rw [List.getElem?_set_self (by omega)], h⟩
  · rw [List.getElem?_set_ne hj] at e ⊢
    exact r.at_ j d' e, by simp [r.len]⟩

/-- what an expression is worth -/
abbrev LE := Ev → Sto → R D
/-- behind an expression -/
def VP (X : Cx) (pins : List (Addr × Obj)) (σ : L2.St) (m : List Addr) (H : Hp) (d : D) (S' : Sto) (u : Value) (s' : Shared) : Prop :=
  ∃ v H' m', Inv X pins σ H' s' ∧ RelV v u ∧ Ext m H m' H' ∧ SR X.K m' H' S' ∧ VR X.K m' H' v d
def VPr (X : Cx) (pins : List (Addr × Obj)) (σ : L2.St) (m : List Addr) (H : Hp) (r : R D) (u : Value) (s' : Shared) : Prop := ∃ d S', r = .ok d S' ∧ VP X pins σ m H d S' u s'
/-- an exception that leaves, by the store -/
def WL (K : PySem.W.Frag) (m : List Addr) (H : Hp) (C : Addr) (fs : List (Str × D)) (S' : Sto) : Value → Option Addr → Hp → Prop := fun cls d H' =>
  cls = .ref C ∧ ∃ (dd : Addr) (vs : List (Str × V)) (m' : List Addr), d = some dd ∧ H' dd = some (.xd vs) ∧ Ext m H m' H' ∧ SR K m' H' S' ∧ VFs K m' H' vs fs
def Hope (X : Cx) (σ : L2.St) (m : List Addr) (H : Hp) {α : Type} (r : R α) : Prop :=
  r ≠ .bad ∧ ∀ C fs S', r = .exc C fs S' → ∀ u s', XE X (fun cls d σ' H' => σ' = σ ∧ WL X.K m H C fs S' cls d H') u s' → X.xe u s'
theorem WL.ext {K : PySem.W.Frag} {m m1 : List Addr} {H H1 : Hp} {C : Addr} {fs : List (Str × D)} {S' : Sto} {cls : Value} {d : Option Addr} {H' : Hp} (e : Ext m H m1 H1) (w : WL K m1 H1 C fs S' cls d H') : WL K m H C fs S' cls d H' := by
  obtain ⟨h1, dd, vs, m', h2, h3, h4, h5⟩ := w
  exact ⟨h1, dd, vs, m', h2, h3, e.trans h4, h5⟩
theorem XE.imp {X : Cx} {W W' : WX} {u : Value} {s' : Shared} (x : XE X W u s') (h : ∀ c d σ H, W c d σ H → W' c d σ H) : XE X W' u s' := by
  obtain ⟨a, B, sI, pins, σ, H, cls, d, e, I, nb, up, sky, na, os, ag, w⟩ := x
  exact ⟨a, B, sI, pins, σ, H, cls, d, e, I, nb, up, sky, na, os, ag, h _ _ _ _ w⟩
theorem Hope.ext {X : Cx} {σ : L2.St} {m m1 : List Addr} {H H1 : Hp} {α : Type} {r : R α} (h : Hope X σ m H r) (e : Ext m H m1 H1) : Hope X σ m1 H1 r :=
  ⟨h.1, fun C fs S' q u s' x => h.2 C fs S' q u s' (XE.imp x fun _ _ _ _ z => ⟨z.1, z.2.ext e⟩)⟩
theorem Hope.ok {X : Cx} {σ : L2.St} {m : List Addr} {H : Hp} {α : Type} {a : α} {S : Sto} : Hope X σ m H (R.ok a S) := ⟨fun z => (nomatch z), fun _ _ _ q => (nomatch q)⟩
theorem Hope.exc {X : Cx} {σ : L2.St} {m : List Addr} {H : Hp} {α β : Type} {C : Addr} {fs : List (Str × D)} {S : Sto} (h : Hope X σ m H (R.exc C fs S : R α)) : Hope X σ m H (R.exc C fs S : R β) :=
  ⟨fun z => (nomatch z), fun C' fs' S' q => by cases q; exact h.2 _ _ _ rfl⟩

structure PEL (X : Cx) (e : Expr) (l : LE) : Prop where
  run : ∀ (pins : List (Addr × Obj)) (s : Shared) (σ : L2.St) (H : Hp) (m : List Addr) (ρ : Ev) (S : Sto), Inv X pins σ H s → SR X.K m H S → ER X.K m H σ ρ → Hope X σ m H (l ρ S) →
    wpAny (model X.prog X.w) X.A (eval e X.env) (VPr X pins σ m H (l ρ S)) X.xe s
/-- a test -/
abbrev LT := Ev → Sto → R Bool
def TPr (X : Cx) (pins : List (Addr × Obj)) (σ : L2.St) (m : List Addr) (H : Hp) (r : R Bool) (b : Bool) (s' : Shared) : Prop :=
  ∃ S' H' m', r = .ok b S' ∧ Inv X pins σ H' s' ∧ Ext m H m' H' ∧ SR X.K m' H' S'
structure PTL (X : Cx) (e : Expr) (l : LT) : Prop where
  run : ∀ (pins : List (Addr × Obj)) (s : Shared) (σ : L2.St) (H : Hp) (m : List Addr) (ρ : Ev) (S : Sto), Inv X pins σ H s → SR X.K m H S → ER X.K m H σ ρ → Hope X σ m H (l ρ S) →
    wpAny (model X.prog X.w) X.A (isTrue e X.env (eval e X.env)) (TPr X pins σ m H (l ρ S)) X.xe s
/-- arguments -/
abbrev LA := Ev → Sto → R (List D)
def APr (X : Cx) (pins : List (Addr × Obj)) (σ : L2.St) (m : List Addr) (H : Hp) (r : R (List D)) (us : List Value) (s' : Shared) : Prop :=
  ∃ ds S' vs H' m', r = .ok ds S' ∧ Inv X pins σ H' s' ∧ Vals vs us ∧ Ext m H m' H' ∧ SR X.K m' H' S' ∧ VRs X.K m' H' vs ds
structure PAL (X : Cx) (es : List Expr) (l : LA) : Prop where
  run : ∀ (pos : Pos) (pins : List (Addr × Obj)) (s : Shared) (σ : L2.St) (H : Hp) (m : List Addr) (ρ : Ev) (S : Sto), Inv X pins σ H s → SR X.K m H S → ER X.K m H σ ρ → Hope X σ m H (l ρ S) →
    wpAny (model X.prog X.w) X.A (spliced (backTo pos (starEach es X.env))) (APr X pins σ m H (l ρ S)) X.xe s
end MP

namespace MP
open PySem PySem.Spec PyProof.Rows L2

section
variable {K : PySem.W.Frag} {m : List Addr} {H : Hp} {S : Sto} {p : Addr} {o : HO}
theorem SR.muts (x : SR K m H S) : ∀ a ∈ m, Mut (H a) := fun _ h => x.mut h
theorem SR.nin (x : SR K m H S) (h : H p = none) : p ∉ m := fun z => by
  have := x.mut z
  rw [h] at this; exact this
theorem Ext.fresh (h : H p = none) : Ext m H m (upd H p o) := ⟨⟨[], by simp⟩, fun a h => .inl h, fun a u _ e => by rw [upd_ne (ne_of_none e h)]; exact e⟩
theorem OR.ext {m' : List Addr} {H' : Hp} {a : Addr} {ob : O} (r : OR K m H a ob) (e : Ext m H m' H') (mu : ∀ a ∈ m, Mut (H a)) (h : H' a = H a) : OR K m' H' a ob := by
  cases r with
  | lst q r => exact .lst (h.trans q) (r.ext e mu)
  | dct q r => exact .dct (h.trans q) (r.ext e mu)
  | dctT q r => exact .dctT (h.trans q) (r.ext e mu)
  | ins q r => exact .ins (h.trans q) (r.ext e mu)
theorem SR.fresh (x : SR K m H S) (h : H p = none) : SR K m (upd H p o) S := ⟨x.nd, x.len, fun i a ob h1 h2 => (x.at_ i a ob h1 h2).ext (Ext.fresh h) x.muts (upd_ne fun z => x.nin h (z ▸ List.mem_iff_getElem?.mpr ⟨i, h1⟩))⟩

/-- what is wanted of a value and the heap behind, by the store -/
def QV (K : PySem.W.Frag) (m : List Addr) (H : Hp) (S' : Sto) (d : D) : VK := fun v H' => ∃ m', Ext m H m' H' ∧ SR K m' H' S' ∧ VR K m' H' v d
theorem qv_same (x : SR K m H S) {v : V} {d : D} (r : VR K m H v d) : QV K m H S d v H := ⟨m, Ext.refl, x, r⟩
theorem qv_new (x : SR K m H S) (h : H p = none) {v : V} {d : D} (r : VR K m (upd H p o) v d) : QV K m H S d v (upd H p o) := ⟨m, Ext.fresh h, x.fresh h, r⟩
theorem VRs.fresh (x : SR K m H S) (h : H p = none) {vs : List V} {ds : List D} (r : VRs K m H vs ds) : VRs K m (upd H p o) vs ds := r.ext (Ext.fresh h) x.muts
theorem VR.fresh (x : SR K m H S) (h : H p = none) {v : V} {d : D} (r : VR K m H v d) : VR K m (upd H p o) v d := r.ext (Ext.fresh h) x.muts
theorem vr_newTup (x : SR K m H S) (h : H p = none) {vs : List V} {ds : List D} (r : VRs K m H vs ds) : VR K m (upd H p (.tup vs)) (.ref p) (.tup ds) := .tup upd_same (r.fresh x h)
theorem vr_newLst (x : SR K m H S) (h : H p = none) {vs : List V} {ds : List D} (r : VRs K m H vs ds) : VR K m (upd H p (.lst vs)) (.ref p) (.lst ds) := .lst (x.nin h) (.inl upd_same) (r.fresh x h)
/-- a new object put into the store -/
theorem SR.snoc (x : SR K m H S) (h : H p = none) {ob : O} (r : ∀ m' H', Ext m H m' H' → H' p = some o → OR K m' H' p ob) : Ext m H (m ++ [p]) (upd H p o) ∧ SR K (m ++ [p]) (upd H p o) (S ++ [ob]) := by
  have e : Ext m H (m ++ [p]) (upd H p o) := ⟨⟨[p], rfl⟩, fun a ha => (List.mem_append.mp ha).imp id fun z => by
    rw [List.mem_singleton.mp z]; exact h, fun a u _ q => by rw [upd_ne (ne_of_none q h)]; exact q⟩
  refine ⟨e, List.nodup_append.mpr ⟨x.nd, by simp, fun a ha b hb z => ?_⟩, by simp [x.len], fun i a u h1 h2 => ?_⟩
  · rw [List.mem_singleton.mp hb] at z
    exact x.nin h (z ▸ ha)
  · by_cases hi : i < m.length
    · rw [List.getElem?_append_left hi] at h1
      rw [List.getElem?_append_left (x.len ▸ hi)] at h2
      exact (x.at_ i a u h1 h2).ext e x.muts (upd_ne fun z => x.nin h (z ▸ List.mem_iff_getElem?.mpr ⟨i, h1⟩))
    · have hl : i = m.length := by
        have := (List.getElem?_eq_some_iff.mp h1).1
        simp at this; omega
      subst hl
      rw [List.getElem?_append_right (Nat.le_refl _)] at h1
      rw [x.len, List.getElem?_append_right (Nat.le_refl _)] at h2
      simp at h1 h2
      subst h1 h2
      exact r _ _ e upd_same
theorem qv_newL (x : SR K m H S) (h : H p = none) {vs : List V} {ds : List D} (r : VRs K m H vs ds) : QV K m H (S ++ [.lst ds]) (.ref S.length) (.ref p) (upd H p (.lst vs)) := by
  obtain ⟨e, q⟩ := x.snoc (o := .lst vs) (ob := .lst ds) h fun m' H' e q => .lst q (r.ext e x.muts)
  exact ⟨_, e, q, .ref (by rw [← x.len]; simp)⟩
theorem VRs.length {vs : List V} {ds : List D} : VRs K m H vs ds → vs.length = ds.length
  | .nil => rfl
  | .cons _ r => by rw [List.length_cons, List.length_cons, r.length]
theorem VRs.append {vs ws : List V} {ds es : List D} : VRs K m H vs ds → VRs K m H ws es → VRs K m H (vs ++ ws) (ds ++ es)
  | .nil, s => s
  | .cons h r, s => .cons h (r.append s)
theorem VRs.take {vs : List V} {ds : List D} : ∀ (n : Nat), VRs K m H vs ds → VRs K m H (vs.take n) (ds.take n)
  | 0, _ => .nil
  | _ + 1, .nil => .nil
  | n + 1, .cons h r => .cons h (VRs.take n r)
theorem VRs.drop {vs : List V} {ds : List D} : ∀ (n : Nat), VRs K m H vs ds → VRs K m H (vs.drop n) (ds.drop n)
  | 0, r => r
  | _ + 1, .nil => .nil
  | n + 1, .cons h r => VRs.drop n r
theorem VRs.getr {vs : List V} {ds : List D} : ∀ {i : Nat} {d : D}, VRs K m H vs ds → ds[i]? = some d → ∃ v, vs[i]? = some v ∧ VR K m H v d
  | _, _, .nil, e => by simp at e
  | 0, _, .cons h _, e => by simp at e; subst e; exact ⟨_, rfl, h⟩
  | i + 1, d, .cons _ r, e => by
    obtain ⟨v, h1, h2⟩ := VRs.getr (i := i) (d := d) r (by simpa using e)
    exact ⟨v, by simpa using h1, h2⟩
theorem VRs.getl {vs : List V} {ds : List D} : ∀ {i : Nat} {v : V}, VRs K m H vs ds → vs[i]? = some v → ∃ d, ds[i]? = some d ∧ VR K m H v d
  | _, _, .nil, e => by simp at e
  | 0, _, .cons h _, e => by simp at e; subst e; exact ⟨_, rfl, h⟩
  | i + 1, d, .cons _ r, e => by
    obtain ⟨v, h1, h2⟩ := VRs.getl (i := i) (v := d) r (by simpa using e)
    exact ⟨v, by simpa using h1, h2⟩
theorem VRs.set {v : V} {d : D} (h : VR K m H v d) {vs : List V} {ds : List D} : ∀ (i : Nat), VRs K m H vs ds → VRs K m H (vs.set i v) (ds.set i d)
  | _, .nil => .nil
  | 0, .cons _ r => .cons h r
  | i + 1, .cons q r => .cons q (VRs.set h i r)
theorem VRs.eraseIdx {vs : List V} {ds : List D} : ∀ (i : Nat), VRs K m H vs ds → VRs K m H (vs.eraseIdx i) (ds.eraseIdx i)
  | _, .nil => .nil
  | 0, .cons _ r => r
  | i + 1, .cons q r => .cons q (VRs.eraseIdx i r)
theorem VRs.of_ints {ns : List Int} : VRs K m H (ns.map V.int) (ns.map D.int) := by
  induction ns with
  | nil => exact .nil
  | cons n ns ih => exact .cons (.int n) ih
theorem VRs.of_strs {ns : List Str} : VRs K m H (ns.map V.str) (ns.map D.str) := by
  induction ns with
  | nil => exact .nil
  | cons n ns ih => exact .cons (.str n) ih
end

/-- an object of the store as it stands -/
def vw (S : Sto) : D → D
  | .ref i => match S[i]? with
    | some (.lst xs) => .lst xs
    | some (.dct t kvs) => .dct t kvs
    | some (.ins C fs) => .obj C fs
    | none => .ref i
  | d => d
section
variable {K : PySem.W.Frag} {m : List Addr} {H : Hp} {S : Sto}
theorem vw_lst (x : SR K m H S) {v : V} {d : D} {xs : List D} (r : VR K m H v d) (e : vw S d = .lst xs) : ∃ a vs, v = .ref a ∧ SqL K H a vs ∧ VRs K m H vs xs := by
  cases r with
  | @lst a vs ds n h r => cases e; exact ⟨a, vs, rfl, .inl h, r⟩
  | @lstK a vs ds ob its n hk h1 h2 h3 h4 h5 r => cases e; exact ⟨a, vs, rfl, .inr ⟨ob, its, n, hk, h1, h2, h3, h4, h5⟩, r⟩
  | @ref i a h =>
    dsimp only [vw] at e
    cases q : S[i]? with
    | none => rw [q] at e; cases e
    | some ob =>
      have z := x.at_ i a ob h q
      rw [q] at e
      cases z with
      | lst h r => cases e; exact ⟨a, _, rfl, SqL.of h, r⟩
      | dct _ _ => cases e
      | dctT _ _ => cases e
      | ins _ _ => cases e
  | _ => cases e
theorem vw_tup {v : V} {d : D} {xs : List D} (r : VR K m H v d) (e : vw S d = .tup xs) : ∃ a vs, v = .ref a ∧ H a = some (.tup vs) ∧ VRs K m H vs xs := by
  cases r with
  | @tup a vs ds h r => cases e; exact ⟨a, vs, rfl, h, r⟩
  | @ref i a h =>
    dsimp only [vw] at e
    cases q : S[i]? with
    | none => rw [q] at e; cases e
    | some ob => rw [q] at e; cases ob <;> cases e
  | _ => cases e
theorem vw_int {v : V} {d : D} {i : Int} (r : VR K m H v d) (e : vw S d = .int i) : v = .int i := by
  cases r with
  | int j => cases e; rfl
  | @ref i a h =>
    dsimp only [vw] at e
    cases q : S[i]? with
    | none => rw [q] at e; cases e
    | some ob => rw [q] at e; cases ob <;> cases e
  | _ => cases e
theorem vw_str {v : V} {d : D} {i : Str} (r : VR K m H v d) (e : vw S d = .str i) : v = .str i := by
  cases r with
  | str j => cases e; rfl
  | @ref i a h =>
    dsimp only [vw] at e
    cases q : S[i]? with
    | none => rw [q] at e; cases e
    | some ob => rw [q] at e; cases ob <;> cases e
  | _ => cases e
theorem vw_bl {v : V} {d : D} {i : Bool} (r : VR K m H v d) (e : vw S d = .bl i) : v = .bl i := by
  cases r with
  | bl j => cases e; rfl
  | @ref i a h =>
    dsimp only [vw] at e
    cases q : S[i]? with
    | none => rw [q] at e; cases e
    | some ob => rw [q] at e; cases ob <;> cases e
  | _ => cases e
theorem vw_obj (x : SR K m H S) {v : V} {d : D} {C : Addr} {gs : List (Str × D)} (r : VR K m H v d) (e : vw S d = .obj C gs) : ∃ a dx fs, v = .ref a ∧ H a = some (.ins C dx fs) ∧ VFs K m H fs gs := by
  cases r with
  | @obj a C dx fs gs n h r => cases e; exact ⟨a, dx, fs, rfl, h, r⟩
  | @ref i a h =>
    dsimp only [vw] at e
    cases q : S[i]? with
    | none => rw [q] at e; cases e
    | some ob =>
      have z := x.at_ i a ob h q
      rw [q] at e
      cases z with
      | ins h r => cases e; exact ⟨a, _, _, rfl, h, r⟩
      | dct _ _ => cases e
      | dctT _ _ => cases e
      | lst _ _ => cases e
  | _ => cases e
end

/-! ### rules by values -/
abbrev G2 := Sto → D → D → Option D
/-- an operation on two values; the store stays -/
structure OpL (X : Cx) (f : Value → Value → Sem Value) (g : G2) : Prop where
  run : ∀ (pins : List (Addr × Obj)) (s : Shared) (σ : L2.St) (H : Hp) (m : List Addr) (S : Sto) (x y : V) (dx dy d : D) (v u : Value), Inv X pins σ H s → SR X.K m H S → VR X.K m H x dx → VR X.K m H y dy → RelV x v → RelV y u → g S dx dy = some d →
    wpAny (model X.prog X.w) X.A (f v u) (VP X pins σ m H d S) X.xe s
theorem vp_of {X : Cx} {pins : List (Addr × Obj)} {σ : L2.St} {m : List Addr} {H : Hp} {S : Sto} {d : D} {u : Value} {s' : Shared} (h : EP X pins σ (QV X.K m H S d) u s') : VP X pins σ m H d S u s' := by
  obtain ⟨v, H', I, r, m', e, q, w⟩ := h
  exact ⟨v, H', m', I, r, e, q, w⟩
theorem OpL.of {X : Cx} {f : Value → Value → Sem Value} {r : R2} {g : G2} (h : OpR X f r)
    (hg : ∀ (H : Hp) (m : List Addr) (S : Sto) (x y : V) (dx dy d : D), SR X.K m H S → VR X.K m H x dx → VR X.K m H y dy → g S dx dy = some d → r x y H (QV X.K m H S d)) : OpL X f g :=
  ⟨fun pins s σ H m S x y dx dy d v u I q rx ry ex ey e => thn (h pins s σ H x y v u _ I ex ey (hg H m S x y dx dy d q rx ry e)) fun _ _ z => vp_of z⟩
theorem OpL.or {X : Cx} {f : Value → Value → Sem Value} {g g' : G2} (h : OpL X f g) (h' : OpL X f g') : OpL X f (fun S x y => (g S x y).or (g' S x y)) :=
  ⟨fun pins s σ H m S x y dx dy d v u I q rx ry ex ey e => by
    cases z : g S dx dy with
    | some d' =>
      rw [z] at e
      cases e
      exact h.run pins s σ H m S x y dx dy _ v u I q rx ry ex ey z
    | none =>
      rw [z] at e
      exact h'.run pins s σ H m S x y dx dy _ v u I q rx ry ex ey e⟩

def g2I (f : Int → Int → Option D) : G2 := fun S x y => match vw S x, vw S y with
  | .int i, .int j => f i j
  | _, _ => none
def g2S (f : Str → Str → Option D) : G2 := fun S x y => match vw S x, vw S y with
  | .str i, .str j => f i j
  | _, _ => none
def g2T (f : List D → List D → Option D) : G2 := fun S x y => match vw S x, vw S y with
  | .tup i, .tup j => f i j
  | _, _ => none
def g2L (f : List D → List D → Option D) : G2 := fun S x y => match vw S x, vw S y with
  | .lst i, .lst j => f i j
  | _, _ => none
theorem g2I_inv {f : Int → Int → Option D} {S : Sto} {x y d : D} (h : g2I f S x y = some d) : ∃ i j, vw S x = .int i ∧ vw S y = .int j ∧ f i j = some d := by
  unfold g2I at h
  split at h
  · exact ⟨_, _, ‹_›, ‹_›, h⟩
  · cases h
theorem g2S_inv {f : Str → Str → Option D} {S : Sto} {x y d : D} (h : g2S f S x y = some d) : ∃ i j, vw S x = .str i ∧ vw S y = .str j ∧ f i j = some d := by
  unfold g2S at h
  split at h
  · exact ⟨_, _, ‹_›, ‹_›, h⟩
  · cases h
theorem g2T_inv {f : List D → List D → Option D} {S : Sto} {x y d : D} (h : g2T f S x y = some d) : ∃ i j, vw S x = .tup i ∧ vw S y = .tup j ∧ f i j = some d := by
  unfold g2T at h
  split at h
  · exact ⟨_, _, ‹_›, ‹_›, h⟩
  · cases h
theorem g2L_inv {f : List D → List D → Option D} {S : Sto} {x y d : D} (h : g2L f S x y = some d) : ∃ i j, vw S x = .lst i ∧ vw S y = .lst j ∧ f i j = some d := by
  unfold g2L at h
  split at h
  · exact ⟨_, _, ‹_›, ‹_›, h⟩
  · cases h
section
variable {X : Cx}
/-- ints, under a condition -/
theorem opl_int {f : Value → Value → Sem Value} {C : Int → Int → Prop} {g : Int → Int → V} {g' : Int → Int → Option D} (h : OpR X f (rI C g)) (hg : ∀ i j d, g' i j = some d → C i j ∧ ∀ K m H, VR K m H (g i j) d) : OpL X f (g2I g') :=
  .of h fun H m S x y dx dy d q rx ry e => by
    obtain ⟨i, j, e1, e2, e3⟩ := g2I_inv e
    obtain ⟨c, z⟩ := hg i j d e3
    exact ⟨i, j, vw_int rx e1, vw_int ry e2, c, qv_same q (z _ _ _)⟩
theorem opl_int0 {f : Value → Value → Sem Value} {g : Int → Int → V} {g' : Int → Int → D} (h : OpR X f (rI0 g)) (hg : ∀ i j K m H, VR K m H (g i j) (g' i j)) : OpL X f (g2I fun i j => some (g' i j)) :=
  .of h fun H m S x y dx dy d q rx ry e => by
    obtain ⟨i, j, e1, e2, e3⟩ := g2I_inv e
    cases e3
    exact ⟨i, j, vw_int rx e1, vw_int ry e2, qv_same q (hg _ _ _ _ _)⟩

def gCat : G2 := g2T fun a b => if a.length + b.length ≤ sizeLine then some (.tup (a ++ b)) else none
def gCatL : G2 := g2L fun a b => if a.length + b.length ≤ sizeLine then some (.lst (a ++ b)) else none
def gAddI : G2 := g2I fun i j => some (.int (i + j))
def gAddS : G2 := g2S fun a b => if a.length + b.length ≤ sizeLine then some (.str (a ++ b)) else none
theorem opl_addI : OpL X (binaryOp .Add) gAddI := opl_int0 op_add fun i j _ _ _ => .int _
theorem opl_addS : OpL X (binaryOp .Add) gAddS := .of op_add_str fun H m S x y dx dy d q rx ry e => by
  obtain ⟨i, j, e1, e2, e3⟩ := g2S_inv e
  split at e3
  · cases e3
    exact ⟨i, j, vw_str rx e1, vw_str ry e2, ‹_›, qv_same q (.str _)⟩
  · cases e3
theorem VRs.nil_iff {K : PySem.W.Frag} {m : List Addr} {H : Hp} {vs : List V} {ds : List D} (r : VRs K m H vs ds) : vs = [] ↔ ds = [] := by
  cases r <;> simp
theorem opl_catT : OpL X (binaryOp .Add) gCat := .of op_catA fun H m S x y dx dy d q rx ry e => by
  obtain ⟨i, j, e1, e2, e3⟩ := g2T_inv e
  split at e3
  · cases e3
    obtain ⟨a, xs, rfl, ha, r1⟩ := vw_tup rx e1
    obtain ⟨b, ys, rfl, hb, r2⟩ := vw_tup ry e2
    refine ⟨a, b, xs, ys, rfl, rfl, SqT.of ha, SqT.of hb, by rw [r1.length, r2.length]; assumption, ?_⟩
    refine ⟨fun z => ?_, fun z z' => ?_, fun z z' p hp => ?_⟩
    · have z1 := r1.nil_iff.mp z
      subst z1
      exact qv_same q (.tup hb (by simpa using r2))
    · have z1 := r2.nil_iff.mp z'
      subst z1
      exact qv_same q (.tup ha (by simpa using r1))
    · exact qv_new q hp (vr_newTup q hp (r1.append r2))
  · cases e3
end
end MP

namespace MP
open PySem PySem.Spec PyProof.Rows L2

section
variable {X : Cx} {pins : List (Addr × Obj)} {σ : L2.St} {m m1 : List Addr} {H H1 : Hp} {ρ : Ev} {S S1 : Sto} {s : Shared}
theorem VPr.left {r : R D} {u : Value} {s' : Shared} (e : Ext m H m1 H1) (h : VPr X pins σ m1 H1 r u s') : VPr X pins σ m H r u s' := by
  obtain ⟨d, S', q, v, H', m', I, rv, e', x, w⟩ := h
  exact ⟨d, S', q, v, H', m', I, rv, e.trans e', x, w⟩
theorem TPr.left {r : R Bool} {u : Bool} {s' : Shared} (e : Ext m H m1 H1) (h : TPr X pins σ m1 H1 r u s') : TPr X pins σ m H r u s' := by
  obtain ⟨S', H', m', q, I, e', x⟩ := h
  exact ⟨S', H', m', q, I, e.trans e', x⟩
theorem APr.left {r : R (List D)} {u : List Value} {s' : Shared} (e : Ext m H m1 H1) (h : APr X pins σ m1 H1 r u s') : APr X pins σ m H r u s' := by
  obtain ⟨ds, S', vs, H', m', q, I, rv, e', x, w⟩ := h
  exact ⟨ds, S', vs, H', m', q, I, rv, e.trans e', x, w⟩
theorem vpr_of {d : D} {S' : Sto} {u : Value} {s' : Shared} (h : VP X pins σ m H d S' u s') : VPr X pins σ m H (.ok d S') u s' := ⟨d, S', rfl, h⟩

/-- an expression, then what goes on -/
theorem run_seq {α : Type} {e : Expr} {l : LE} (h : PEL X e l) (I : Inv X pins σ H s) (x : SR X.K m H S) (r : ER X.K m H σ ρ) {f : D → Sto → R α} (hp : Hope X σ m H ((l ρ S).bind f)) {Q : Value → Shared → Prop}
    (k : ∀ d S1, l ρ S = .ok d S1 → ∀ v u s1 H1 m1, Inv X pins σ H1 s1 → RelV v u → Ext m H m1 H1 → SR X.K m1 H1 S1 → VR X.K m1 H1 v d → ER X.K m1 H1 σ ρ → Hope X σ m1 H1 (f d S1) → Q u s1) :
    wpAny (model X.prog X.w) X.A (eval e X.env) Q X.xe s := by
  cases q : l ρ S with
  | bad => rw [q] at hp; exact absurd rfl hp.1
  | exc C fs S' =>
    rw [q] at hp
    have z := h.run pins s σ H m ρ S I x r (by rw [q]; exact hp.exc)
    rw [q] at z
    exact thn z fun u s' ⟨d, S2, e, _⟩ => nomatch e
  | ok d S1 =>
    rw [q] at hp
    have z := h.run pins s σ H m ρ S I x r (by rw [q]; exact Hope.ok)
    rw [q] at z
    refine thn z fun u s1 ⟨d', S2, e, v, H1, m1, I1, rv, ex, x1, w⟩ => ?_
    cases e
    exact k d S1 q v u s1 H1 m1 I1 rv ex x1 w (r.ext ex x.muts) (Hope.ext hp ex)
theorem run_seqT {α : Type} {e : Expr} {l : LT} (h : PTL X e l) (I : Inv X pins σ H s) (x : SR X.K m H S) (r : ER X.K m H σ ρ) {f : Bool → Sto → R α} (hp : Hope X σ m H ((l ρ S).bind f)) {Q : Bool → Shared → Prop}
    (k : ∀ b S1, l ρ S = .ok b S1 → ∀ s1 H1 m1, Inv X pins σ H1 s1 → Ext m H m1 H1 → SR X.K m1 H1 S1 → ER X.K m1 H1 σ ρ → Hope X σ m1 H1 (f b S1) → Q b s1) :
    wpAny (model X.prog X.w) X.A (isTrue e X.env (eval e X.env)) Q X.xe s := by
  cases q : l ρ S with
  | bad => rw [q] at hp; exact absurd rfl hp.1
  | exc C fs S' =>
    rw [q] at hp
    have z := h.run pins s σ H m ρ S I x r (by rw [q]; exact hp.exc)
    rw [q] at z
    exact thn z fun u s' ⟨S2, H', m', e, _⟩ => nomatch e
  | ok d S1 =>
    rw [q] at hp
    have z := h.run pins s σ H m ρ S I x r (by rw [q]; exact Hope.ok)
    rw [q] at z
    refine thn z fun u s1 ⟨S2, H1, m1, e, I1, ex, x1⟩ => ?_
    cases e
    exact k d S1 q s1 H1 m1 I1 ex x1 (r.ext ex x.muts) (Hope.ext hp ex)
theorem run_seqA {α : Type} {es : List Expr} {l : LA} {pos : Pos} (h : PAL X es l) (I : Inv X pins σ H s) (x : SR X.K m H S) (r : ER X.K m H σ ρ) {f : List D → Sto → R α} (hp : Hope X σ m H ((l ρ S).bind f)) {Q : List Value → Shared → Prop}
    (k : ∀ ds S1, l ρ S = .ok ds S1 → ∀ vs us s1 H1 m1, Inv X pins σ H1 s1 → Vals vs us → Ext m H m1 H1 → SR X.K m1 H1 S1 → VRs X.K m1 H1 vs ds → ER X.K m1 H1 σ ρ → Hope X σ m1 H1 (f ds S1) → Q us s1) :
    wpAny (model X.prog X.w) X.A (spliced (backTo pos (starEach es X.env))) Q X.xe s := by
  cases q : l ρ S with
  | bad => rw [q] at hp; exact absurd rfl hp.1
  | exc C fs S' =>
    rw [q] at hp
    have z := h.run pos pins s σ H m ρ S I x r (by rw [q]; exact hp.exc)
    rw [q] at z
    exact thn z fun u s' ⟨ds, S2, vs, H', m', e, _⟩ => nomatch e
  | ok d S1 =>
    rw [q] at hp
    have z := h.run pos pins s σ H m ρ S I x r (by rw [q]; exact Hope.ok)
    rw [q] at z
    refine thn z fun u s1 ⟨ds, S2, vs, H1, m1, e, I1, rv, ex, x1, w⟩ => ?_
    cases e
    exact k d S1 q vs u s1 H1 m1 I1 rv ex x1 w (r.ext ex x.muts) (Hope.ext hp ex)
end

section
variable {X : Cx} {a b c e : Expr} {la lb lc l : LE} {pos : Pos}
def lVar (i : Nat) : LE := fun ρ S => match ρ[i]? with
  | some (some d) => .ok d S
  | _ => .bad
theorem pel_var {i : Nat} {x : Str} (hN : X.N[i]? = some x := by rfl) (hv : Vis X.env.scope x := by first | exact Or.inl rfl | exact Or.inr (Or.inl rfl) | exact Or.inr (Or.inr rfl)) (hd : (x == ("__debug__" : Str)) = false := by decide) (hcd : (x == ("__classdict__" : Str)) = false := by decide) :
    PEL X (.Name x pos) (lVar i) := by
  refine ⟨fun pins s σ H m ρ S I x r hp => ?_⟩
  unfold lVar at hp ⊢
  split at hp
  · rename_i d e
    obtain ⟨v, h1, h2⟩ := r.at_ i d e
    exact thn ((pe_var hN hv hd hcd).run pins s σ H (QV X.K m H S d) I ⟨v, h1, qv_same x h2⟩) fun u s' q => vpr_of (vp_of q)
  · exact absurd rfl hp.1
/-- an expression of the layer whose value is known -/
def lC (d : D) : LE := fun _ S => .ok d S
theorem pel_c {v : V} {d : D} (h : PE X e (tC v)) (hv : ∀ K m H, VR K m H v d) : PEL X e (lC d) :=
  ⟨fun pins s σ H m ρ S I x r hp => thn (h.run pins s σ H (QV X.K m H S d) I (qv_same x (hv _ _ _))) fun u s' q => vpr_of (vp_of q)⟩
theorem pel_int {i : Int} {j : Nat} : PEL X (.Constant (.int i) j pos) (lC (.int i)) := pel_c pe_int fun _ _ _ => .int i
theorem pel_bl {i : Bool} {j : Nat} : PEL X (.Constant (.bool i) j pos) (lC (.bl i)) := pel_c pe_bl fun _ _ _ => .bl i
theorem pel_non {j : Nat} : PEL X (.Constant .none j pos) (lC .non) := pel_c pe_non fun _ _ _ => .non
theorem pel_str {i : Str} {j : Nat} : PEL X (.Constant (.str i) j pos) (lC (.str i)) := pel_c pe_str fun _ _ _ => .str i
/-- a module's constant -/
theorem pel_gint {x : Str} {i : Int} {t : Tok} (hg : Gl X x) (hm : X.mg x = some (.int i t)) (hd : (x == ("__debug__" : Str)) = false := by decide) : PEL X (.Name x pos) (lC (.int i)) := pel_c (pe_glob hg hm (v := .int i) ⟨_, rfl⟩ hd) fun _ _ _ => .int i
theorem pel_gstr {x i : Str} {t : Tok} (hg : Gl X x) (hm : X.mg x = some (.str i t)) (hd : (x == ("__debug__" : Str)) = false := by decide) : PEL X (.Name x pos) (lC (.str i)) := pel_c (pe_glob hg hm (v := .str i) ⟨_, rfl⟩ hd) fun _ _ _ => .str i

def lift1 (o : Option D) (S : Sto) : R D := match o with
  | some d => .ok d S
  | none => .bad
def lBin (g : G2) (la lb : LE) : LE := fun ρ S => (la ρ S).bind fun x S1 => (lb ρ S1).bind fun y S2 => lift1 (g S2 x y) S2
theorem lift_ok {o : Option D} {S : Sto} {X : Cx} {σ : L2.St} {m : List Addr} {H : Hp} (h : Hope X σ m H (lift1 o S)) : ∃ d, o = some d := by
  cases o with
  | none => exact absurd rfl h.1
  | some d => exact ⟨d, rfl⟩
theorem run_bin {g : G2} {f : Value → Value → Sem Value} (ha : PEL X a la) (hb : PEL X b lb) (ho : OpL X f g) {pins : List (Addr × Obj)} {s : Shared} {σ : L2.St} {H : Hp} {m : List Addr} {ρ : Ev} {S : Sto} (I : Inv X pins σ H s) (x : SR X.K m H S) (r : ER X.K m H σ ρ) (hp : Hope X σ m H (lBin g la lb ρ S)) :
    wpAny (model X.prog X.w) X.A (eval a X.env) (fun v s₁ => wpAny (model X.prog X.w) X.A (eval b X.env) (fun u s₂ => wpAny (model X.prog X.w) X.A (f v u) (VPr X pins σ m H (lBin g la lb ρ S)) X.xe s₂) X.xe s₁) X.xe s := by
  refine run_seq ha I x r hp fun dx S1 q1 v u s1 H1 m1 I1 rv e1 x1 w1 r1 hp1 => ?_
  refine run_seq hb I1 x1 r1 hp1 fun dy S2 q2 v2 u2 s2 H2 m2 I2 rv2 e2 x2 w2 r2 hp2 => ?_
  obtain ⟨d, q3⟩ := lift_ok hp2
  have e : lBin g la lb ρ S = .ok d S2 := by
    unfold lBin; rw [q1, bind_ok, q2, bind_ok, q3]; rfl
  rw [e]
  exact thn (ho.run pins s2 σ H2 m2 S2 v v2 dx dy d u u2 I2 x2 (w1.ext e2 x1.muts) w2 rv rv2 q3) fun _ _ z => (vpr_of z).left (e1.trans e2)
theorem pel_op {op : Operator} {g : G2} (ho : OpL X (binaryOp op) g) (ha : PEL X a la) (hb : PEL X b lb) : PEL X (.BinOp a op b pos) (lBin g la lb) :=
  ⟨fun pins s σ H m ρ S I x r hp => wpAny_BinOp (run_bin ha hb ho I x r hp)⟩
theorem pel_cmp {op : CmpOp} {g : G2} (ho : OpL X (compareOp op) g) (ha : PEL X a la) (hb : PEL X b lb) (hm : behindInMarks op b = false := by first | exact nobehind _ (by decide) (by decide) | rfl) : PEL X (.Compare a [op] [b] pos) (lBin g la lb) :=
  ⟨fun pins s σ H m ρ S I x r hp => wpAny_Compare1 (run_bin ha hb ho I x r hp) hm⟩
/-- a one-place operation -/
structure UnL (X : Cx) (f : Value → Sem Value) (g : Sto → D → Option D) : Prop where
  run : ∀ (pins : List (Addr × Obj)) (s : Shared) (σ : L2.St) (H : Hp) (m : List Addr) (S : Sto) (x : V) (dx d : D) (v : Value), Inv X pins σ H s → SR X.K m H S → VR X.K m H x dx → RelV x v → g S dx = some d →
    wpAny (model X.prog X.w) X.A (f v) (VP X pins σ m H d S) X.xe s
def lUn (g : Sto → D → Option D) (la : LE) : LE := fun ρ S => (la ρ S).bind fun x S1 => lift1 (g S1 x) S1
theorem pel_un {op : UnaryOp} {g : Sto → D → Option D} (ho : UnL X (unaryOp op) g) (ha : PEL X a la) : PEL X (.UnaryOp op a pos) (lUn g la) := by
  refine ⟨fun pins s σ H m ρ S I x r hp => ?_⟩
  refine UnaryOp_ (run_seq ha I x r hp fun dx S1 q1 v u s1 H1 m1 I1 rv e1 x1 w1 r1 hp1 => ?_)
  obtain ⟨d, q3⟩ := lift_ok hp1
  have e : lUn g la ρ S = .ok d S1 := by
    unfold lUn; rw [q1, bind_ok, q3]; rfl
  rw [e]
  exact thn (ho.run pins s1 σ H1 m1 S1 v dx d u I1 x1 w1 rv q3) fun _ _ z => (vpr_of z).left e1
def gNeg (S : Sto) : D → Option D
  | .int i => some (.int (-i))
  | _ => none
theorem unl_neg : UnL X (unaryOp .USub) gNeg := ⟨fun pins s σ H m S x dx d v I q rx ev e => by
  cases rx with
  | int i => cases e; exact thn (un_neg pins s σ H _ v _ I ev ⟨i, rfl, qv_same q (.int _)⟩) fun _ _ z => vp_of z
  | _ => cases e⟩

/-! ### tests -/
/-- truth of a value -/
def truth (S : Sto) (d : D) : Option Bool := match vw S d with
  | .non => some false
  | .bl b => some b
  | .int i => some (i != 0)
  | .str s => if s.length ≤ sizeLine then some ((s.length : Int) != 0) else none
  | .tup xs => some (!xs.isEmpty)
  | .lst xs => some (!xs.isEmpty)
  | _ => none
theorem tru_of {K : PySem.W.Frag} {m : List Addr} {H : Hp} {S : Sto} {v : V} {d : D} {k : Bool} (x : SR K m H S) (r : VR K m H v d) (h : truth S d = some k) : TruV K v H k := by
  unfold truth at h
  split at h
  · rename_i e
    have : v = .non := by
      cases r with
      | non => rfl
      | @ref i a h' =>
        dsimp only [vw] at e
        cases q : S[i]? with
        | none => rw [q] at e; cases e
        | some ob => rw [q] at e; cases ob <;> cases e
      | _ => cases e
    subst this; cases h; rfl
  · rename_i b e
    rw [vw_bl r e]; cases h; rfl
  · rename_i b e
    rw [vw_int r e]; cases h; rfl
  · rename_i b e
    rw [vw_str r e]
    split at h
    · cases h; exact ⟨‹_›, rfl⟩
    · cases h
  · rename_i b e
    obtain ⟨a, vs, rfl, h1, h2⟩ := vw_tup r e
    cases h
    exact .inr (.inl ⟨vs, SqT.of h1, by cases h2 <;> rfl⟩)
  · rename_i b e
    obtain ⟨a, vs, rfl, h1, h2⟩ := vw_lst x r e
    cases h
    exact .inl ⟨vs, h1, by cases h2 <;> rfl⟩
  · cases h
def liftB (o : Option Bool) (S : Sto) : R Bool := match o with
  | some d => .ok d S
  | none => .bad
def tTru (l : LE) : LT := fun ρ S => (l ρ S).bind fun d S1 => liftB (truth S1 d) S1
theorem liftB_ok {o : Option Bool} {S : Sto} {X : Cx} {σ : L2.St} {m : List Addr} {H : Hp} (h : Hope X σ m H (liftB o S)) : ∃ d, o = some d := by
  cases o with
  | none => exact absurd rfl h.1
  | some d => exact ⟨d, rfl⟩
theorem tru_run {pins : List (Addr × Obj)} {s s1 : Shared} {σ : L2.St} {H H1 : Hp} {m m1 : List Addr} {ρ : Ev} {S S1 : Sto} {d : D} {v : V} {u : Value} (q1 : l ρ S = .ok d S1) (I1 : Inv X pins σ H1 s1) (rv : RelV v u) (e1 : Ext m H m1 H1) (x1 : SR X.K m1 H1 S1) (w1 : VR X.K m1 H1 v d) (hp1 : Hope X σ m1 H1 (liftB (truth S1 d) S1)) :
    wpAny (model X.prog X.w) X.A (truthy u) (TPr X pins σ m H (tTru l ρ S)) X.xe s1 := by
  obtain ⟨b, q3⟩ := liftB_ok hp1
  have e : tTru l ρ S = .ok b S1 := by
    unfold tTru; rw [q1, bind_ok, q3]; rfl
  rw [e]
  refine thn (tru_ok pins s1 σ H1 v u (fun c H' => c = b ∧ H' = H1) I1 rv ⟨b, tru_of x1 w1 q3, rfl, rfl⟩) fun c s2 ⟨H2, I2, ec, eh⟩ => ?_
  subst ec eh
  exact ⟨S1, H2, m1, rfl, I2, e1, x1⟩
theorem ptl_truth (ha : PEL X a l) (he : ∀ whole, isTrue a X.env whole = (do let v ← whole; standAt a.pos; holding [v] (truthy v)) := by intro _; rfl) : PTL X a (tTru l) :=
  ⟨fun pins s σ H m ρ S I x r hp => isTrue_plain (run_seq ha I x r hp fun d S1 q1 v u s1 H1 m1 I1 rv e1 x1 w1 r1 hp1 => tru_run (s := s) q1 I1 rv e1 x1 w1 hp1) (he _)⟩
theorem ptl_cmp {op : CmpOp} {g : G2} (ho : OpL X (compareOp op) g) (ha : PEL X a la) (hb : PEL X b lb) (hm : behindInMarks op b = false := by first | exact nobehind _ (by decide) (by decide) | rfl) : PTL X (.Compare a [op] [b] pos) (tTru (lBin g la lb)) := by
  refine ⟨fun pins s σ H m ρ S I x r hp => ?_⟩
  have hp0 : Hope X σ m H (lBin g la lb ρ S) := by
    unfold tTru at hp
    cases q : lBin g la lb ρ S with
    | bad => rw [q] at hp; exact absurd rfl hp.1
    | exc C fs S' => rw [q] at hp; exact hp.exc
    | ok d S1 => exact Hope.ok
  refine wpAny_isTrue_Compare1 (thn (run_bin ha hb ho I x r hp0) fun v s1 h1 => thn h1 fun u s2 h2 => thn h2 fun w s3 ⟨d, S3, q, v3, H3, m3, I3, rv, e3, x3, w3⟩ => ?_) hm
  refine tru_run (s := s) q I3 rv e3 x3 w3 ?_
  unfold tTru at hp
  rw [q, bind_ok] at hp
  exact hp.ext e3
/-- and, or, not in tests -/
structure PWL (X : Cx) (e : Expr) (l : LT) : Prop where
  run : ∀ (whole : Sem Value) (pins : List (Addr × Obj)) (s : Shared) (σ : L2.St) (H : Hp) (m : List Addr) (ρ : Ev) (S : Sto), Inv X pins σ H s → SR X.K m H S → ER X.K m H σ ρ → Hope X σ m H (l ρ S) →
    wpAny (model X.prog X.w) X.A (isTrue e X.env whole) (TPr X pins σ m H (l ρ S)) X.xe s
theorem PWL.pt {l : LT} (h : PWL X e l) : PTL X e l := ⟨h.run _⟩
variable {ta tb tc : LT} {rest : List Expr}
def tAnd (ta tb : LT) : LT := fun ρ S => (ta ρ S).bind fun b S1 => if b = true then tb ρ S1 else .ok false S1
def tOr (ta tb : LT) : LT := fun ρ S => (ta ρ S).bind fun b S1 => if b = true then .ok true S1 else tb ρ S1
def tNot (ta : LT) : LT := fun ρ S => (ta ρ S).bind fun b S1 => .ok (!b) S1
theorem tpr_ok {pins : List (Addr × Obj)} {σ : L2.St} {H H1 : Hp} {m m1 : List Addr} {S1 : Sto} {b : Bool} {s1 : Shared} {r : R Bool} (I1 : Inv X pins σ H1 s1) (e1 : Ext m H m1 H1) (x1 : SR X.K m1 H1 S1) (q : r = .ok b S1) : TPr X pins σ m H r b s1 := ⟨S1, H1, m1, q, I1, e1, x1⟩
theorem pwl_and1 (ha : PTL X a ta) : PWL X (.BoolOp .And [a] pos) ta := by
  refine ⟨fun wh pins s σ H m ρ S I x r hp => ?_⟩
  refine isTrue_and (thn (ha.run pins s σ H m ρ S I x r hp) fun c s1 e => ?_)
  cases c with
  | true => exact isTrue_and_nil e
  | false => exact e
theorem pwl_or1 (ha : PTL X a ta) : PWL X (.BoolOp .Or [a] pos) ta := by
  refine ⟨fun wh pins s σ H m ρ S I x r hp => ?_⟩
  refine isTrue_or (thn (ha.run pins s σ H m ρ S I x r hp) fun c s1 e => ?_)
  cases c with
  | false => exact isTrue_or_nil e
  | true => exact e
theorem pwl_and (ha : PTL X a ta) (hb : PWL X (.BoolOp .And (b :: rest) pos) tb) : PWL X (.BoolOp .And (a :: b :: rest) pos) (tAnd ta tb) := by
  refine ⟨fun wh pins s σ H m ρ S I x r hp => ?_⟩
  refine isTrue_and (run_seqT ha I x r hp fun c S1 q1 s1 H1 m1 I1 e1 x1 r1 hp1 => ?_)
  cases c with
  | true =>
    have e : tAnd ta tb ρ S = tb ρ S1 := by unfold tAnd; rw [q1]; rfl
    rw [e]
    exact thn (hb.run wh pins s1 σ H1 m1 ρ S1 I1 x1 r1 hp1) fun _ _ z => z.left e1
  | false => exact tpr_ok I1 e1 x1 (by unfold tAnd; rw [q1]; rfl)
theorem pwl_or (ha : PTL X a ta) (hb : PWL X (.BoolOp .Or (b :: rest) pos) tb) : PWL X (.BoolOp .Or (a :: b :: rest) pos) (tOr ta tb) := by
  refine ⟨fun wh pins s σ H m ρ S I x r hp => ?_⟩
  refine isTrue_or (run_seqT ha I x r hp fun c S1 q1 s1 H1 m1 I1 e1 x1 r1 hp1 => ?_)
  cases c with
  | false =>
    have e : tOr ta tb ρ S = tb ρ S1 := by unfold tOr; rw [q1]; rfl
    rw [e]
    exact thn (hb.run wh pins s1 σ H1 m1 ρ S1 I1 x1 r1 hp1) fun _ _ z => z.left e1
  | true => exact tpr_ok I1 e1 x1 (by unfold tOr; rw [q1]; rfl)
theorem ptl_not (ha : PTL X a ta) : PTL X (.UnaryOp .Not a pos) (tNot ta) := by
  refine ⟨fun pins s σ H m ρ S I x r hp => ?_⟩
  refine isTrue_not (run_seqT ha I x r hp fun c S1 q1 s1 H1 m1 I1 e1 x1 r1 hp1 => ?_)
  exact tpr_ok I1 e1 x1 (by unfold tNot; rw [q1, bind_ok])
end
end MP

namespace MP
open PySem PySem.Spec PyProof.Rows L2

section
variable {X : Cx} {a b c e o : Expr} {la lb lc l lo : LE} {pos : Pos} {es rest : List Expr} {t : LA} {tc : LT}
/-! ### and, or, not, if .. else as values -/
def lAndV (la lb : LE) : LE := fun ρ S => (la ρ S).bind fun d S1 => (liftB (truth S1 d) S1).bind fun k S2 => if k = true then lb ρ S2 else .ok d S2
def lOrV (la lb : LE) : LE := fun ρ S => (la ρ S).bind fun d S1 => (liftB (truth S1 d) S1).bind fun k S2 => if k = true then .ok d S2 else lb ρ S2
def lNotV (la : LE) : LE := fun ρ S => (la ρ S).bind fun d S1 => (liftB (truth S1 d) S1).bind fun k S2 => .ok (.bl (!k)) S2
theorem pel_one {op : BoolOp} (h : PEL X a l) : PEL X (.BoolOp op [a] pos) l := ⟨fun pins s σ H m ρ S I x r hp => BoolOp_one (h.run pins s σ H m ρ S I x r hp)⟩
theorem bind_liftB {α : Type} {ob : Option Bool} {S : Sto} {f : Bool → Sto → R α} {X : Cx} {σ : L2.St} {m : List Addr} {H : Hp} (h : Hope X σ m H ((liftB ob S).bind f)) : ∃ k, ob = some k := by
  cases ob with
  | none => exact absurd rfl h.1
  | some k => exact ⟨k, rfl⟩
theorem tru_step {pins : List (Addr × Obj)} {s1 : Shared} {σ : L2.St} {H1 : Hp} {m1 : List Addr} {S1 : Sto} {d : D} {v : V} {u : Value} {k : Bool} (I1 : Inv X pins σ H1 s1) (rv : RelV v u) (x1 : SR X.K m1 H1 S1) (w1 : VR X.K m1 H1 v d) (hk : truth S1 d = some k) {Q : Bool → Shared → Prop}
    (h : ∀ s2, Inv X pins σ H1 s2 → Q k s2) : wpAny (model X.prog X.w) X.A (truthy u) Q X.xe s1 :=
  thn (tru_ok pins s1 σ H1 v u (fun c H' => c = k ∧ H' = H1) I1 rv ⟨k, tru_of x1 w1 hk, rfl, rfl⟩) fun c s2 ⟨H2, I2, ec, eh⟩ => by
    subst ec eh
    exact h s2 I2
theorem pel_and (ha : PEL X a la) (hb : PEL X (.BoolOp .And (b :: rest) pos) lb) : PEL X (.BoolOp .And (a :: b :: rest) pos) (lAndV la lb) := by
  refine ⟨fun pins s σ H m ρ S I x r hp => ?_⟩
  refine BoolOp_and (run_seq ha I x r hp fun d S1 q1 v u s1 H1 m1 I1 rv e1 x1 w1 r1 hp1 => ?_)
  obtain ⟨k, hk⟩ := bind_liftB hp1
  refine tru_step I1 rv x1 w1 hk fun s2 I2 => ?_
  have e0 : lAndV la lb ρ S = if k = true then lb ρ S1 else .ok d S1 := by unfold lAndV; rw [q1, bind_ok, hk]; rfl
  rw [hk] at hp1
  rw [e0]
  cases k with
  | true => exact thn (hb.run pins s2 σ H1 m1 ρ S1 I2 x1 r1 hp1) fun _ _ z => z.left e1
  | false => exact ⟨d, S1, rfl, v, H1, m1, I2, rv, e1, x1, w1⟩
theorem pel_or (ha : PEL X a la) (hb : PEL X (.BoolOp .Or (b :: rest) pos) lb) : PEL X (.BoolOp .Or (a :: b :: rest) pos) (lOrV la lb) := by
  refine ⟨fun pins s σ H m ρ S I x r hp => ?_⟩
  refine BoolOp_or (run_seq ha I x r hp fun d S1 q1 v u s1 H1 m1 I1 rv e1 x1 w1 r1 hp1 => ?_)
  obtain ⟨k, hk⟩ := bind_liftB hp1
  refine tru_step I1 rv x1 w1 hk fun s2 I2 => ?_
  have e0 : lOrV la lb ρ S = if k = true then .ok d S1 else lb ρ S1 := by unfold lOrV; rw [q1, bind_ok, hk]; rfl
  rw [hk] at hp1
  rw [e0]
  cases k with
  | false => exact thn (hb.run pins s2 σ H1 m1 ρ S1 I2 x1 r1 hp1) fun _ _ z => z.left e1
  | true => exact ⟨d, S1, rfl, v, H1, m1, I2, rv, e1, x1, w1⟩
theorem pel_not (ha : PEL X a la) : PEL X (.UnaryOp .Not a pos) (lNotV la) := by
  refine ⟨fun pins s σ H m ρ S I x r hp => ?_⟩
  refine UnaryOp_ (run_seq ha I x r hp fun d S1 q1 v u s1 H1 m1 I1 rv e1 x1 w1 r1 hp1 => ?_)
  obtain ⟨k, hk⟩ := bind_liftB hp1
  refine not_of (tru_step I1 rv x1 w1 hk fun s2 I2 => ?_)
  have e0 : lNotV la ρ S = .ok (.bl (!k)) S1 := by unfold lNotV; rw [q1, bind_ok, hk]; rfl
  rw [e0]
  exact ⟨_, S1, rfl, .bl (!k), H1, m1, I2, rfl, e1, x1, .bl _⟩
def lIf (t : LT) (la lb : LE) : LE := fun ρ S => (t ρ S).bind fun k S1 => if k = true then la ρ S1 else lb ρ S1
theorem pel_ifExp (hc : PTL X c tc) (ha : PEL X a la) (hb : PEL X b lb) : PEL X (.IfExp c a b pos) (lIf tc la lb) := by
  refine ⟨fun pins s σ H m ρ S I x r hp => ?_⟩
  refine wpAny_IfExp (run_seqT hc I x r hp fun k S1 q1 s1 H1 m1 I1 e1 x1 r1 hp1 => ?_)
  have e0 : lIf tc la lb ρ S = if k = true then la ρ S1 else lb ρ S1 := by unfold lIf; rw [q1]; rfl
  rw [e0]
  cases k with
  | true => exact thn (ha.run pins s1 σ H1 m1 ρ S1 I1 x1 r1 hp1) fun _ _ z => z.left e1
  | false => exact thn (hb.run pins s1 σ H1 m1 ρ S1 I1 x1 r1 hp1) fun _ _ z => z.left e1

/-! ### arguments, displays -/
def aNil : LA := fun _ S => .ok [] S
def aCons (la : LE) (t : LA) : LA := fun ρ S => (la ρ S).bind fun d S1 => (t ρ S1).bind fun ds S2 => .ok (d :: ds) S2
theorem pal_nil : PAL X [] aNil := ⟨fun pos pins s σ H m ρ S I x r hp => Calls.spliced_nil ⟨[], S, [], H, m, rfl, I, .nil, Ext.refl, x, .nil⟩⟩
theorem pal_cons (ha : PEL X e la) (hr : PAL X es t) (hs : starEach (e :: es) X.env = (false, eval e X.env) :: starEach es X.env := by rfl) : PAL X (e :: es) (aCons la t) := by
  refine ⟨fun pos pins s σ H m ρ S I x r hp => ?_⟩
  rw [hs]
  show wpAny _ _ (spliced ((false, eval e X.env) :: backTo pos (starEach es X.env))) _ _ s
  refine Calls.spliced_cons (run_seq ha I x r hp fun d S1 q1 v u s1 H1 m1 I1 rv e1 x1 w1 r1 hp1 => ?_)
  refine run_seqA hr I1 x1 r1 hp1 fun ds S2 q2 vs us s2 H2 m2 I2 rvs e2 x2 w2 r2 hp2 => ?_
  exact ⟨d :: ds, S2, v :: vs, H2, m2, by unfold aCons; rw [q1, bind_ok, q2, bind_ok], I2, .cons rv rvs, e1.trans e2, x2, .cons (w1.ext e2 x1.muts) w2⟩
def lTup (t : LA) : LE := fun ρ S => (t ρ S).bind fun ds S1 => if ds.length ≤ sizeLine then .ok (.tup ds) S1 else .bad
def lLst (t : LA) : LE := fun ρ S => (t ρ S).bind fun ds S1 => if ds.length ≤ sizeLine then .ok (.lst ds) S1 else .bad
/-- a list that is put into the store -/
def lLstN (t : LA) : LE := fun ρ S => (t ρ S).bind fun ds S1 => if ds.length ≤ sizeLine then .ok (.ref S1.length) (S1 ++ [.lst ds]) else .bad
theorem hope_if {α : Type} {p : Prop} [Decidable p] {r : R α} {X : Cx} {σ : L2.St} {m : List Addr} {H : Hp} (h : Hope X σ m H (if p then r else .bad)) : p := by
  by_cases q : p
  · exact q
  · rw [if_neg q] at h; exact absurd rfl h.1
theorem pel_tup {x1 : Nat} (h : PAL X es t) : PEL X (.Tuple es x1 pos) (lTup t) := by
  refine ⟨fun pins s σ H m ρ S I x r hp => ?_⟩
  refine wpAny_Tuple_spliced (run_seqA h I x r hp fun ds S1 q1 vs us s1 H1 m1 I1 rv e1 x1 w1 r1 hp1 => ?_)
  have hz := hope_if hp1
  refine ⟨by rw [← rv.length, w1.length]; exact hz, ?_⟩
  have hf : H1 s1.heap.objs.size = none := I1.hok.fresh (Nat.le_refl _)
  have e0 : lTup t ρ S = .ok (.tup ds) S1 := by unfold lTup; rw [q1, bind_ok, if_pos hz]
  rw [e0]
  refine (vpr_of ⟨.ref s1.heap.objs.size, upd H1 s1.heap.objs.size (.tup vs), m1, I1.laid (t' := s1.toks) (fun b u e => Heap.get?_push_of_some _ e) (Nat.le_refl _) ?_, rfl, Ext.fresh hf, x1.fresh hf, vr_newTup x1 hf w1⟩).left e1
  exact ⟨by rw [w1.length]; exact hz, us, rv, ⟨_, Heap.get?_push_size _ rfl, rfl, _, rfl⟩⟩
theorem pel_lst (h : PAL X es t) : PEL X (.List es pos) (lLst t) := by
  refine ⟨fun pins s σ H m ρ S I x r hp => ?_⟩
  refine wpAny_List_spliced (run_seqA h I x r hp fun ds S1 q1 vs us s1 H1 m1 I1 rv e1 x1 w1 r1 hp1 => ?_)
  have hz := hope_if hp1
  refine ⟨by rw [← rv.length, w1.length]; exact hz, ?_⟩
  have hf : H1 s1.heap.objs.size = none := I1.hok.fresh (Nat.le_refl _)
  have e0 : lLst t ρ S = .ok (.lst ds) S1 := by unfold lLst; rw [q1, bind_ok, if_pos hz]
  rw [e0]
  refine (vpr_of ⟨.ref s1.heap.objs.size, upd H1 s1.heap.objs.size (.lst vs), m1, I1.laid (t' := s1.toks) (fun b u e => Heap.get?_push_of_some _ e) (Nat.le_refl _) ?_, rfl, Ext.fresh hf, x1.fresh hf, vr_newLst x1 hf w1⟩).left e1
  exact ⟨by rw [w1.length]; exact hz, us, 0, rv, Heap.get?_push_size _ rfl⟩
theorem pel_lstN (h : PAL X es t) : PEL X (.List es pos) (lLstN t) := by
  refine ⟨fun pins s σ H m ρ S I x r hp => ?_⟩
  refine wpAny_List_spliced (run_seqA h I x r hp fun ds S1 q1 vs us s1 H1 m1 I1 rv e1 x1 w1 r1 hp1 => ?_)
  have hz := hope_if hp1
  refine ⟨by rw [← rv.length, w1.length]; exact hz, ?_⟩
  have hf : H1 s1.heap.objs.size = none := I1.hok.fresh (Nat.le_refl _)
  have e0 : lLstN t ρ S = .ok (.ref S1.length) (S1 ++ [.lst ds]) := by unfold lLstN; rw [q1, bind_ok, if_pos hz]
  rw [e0]
  obtain ⟨m', z1, z2, z3⟩ := qv_newL x1 hf w1
  refine (vpr_of ⟨.ref s1.heap.objs.size, upd H1 s1.heap.objs.size (.lst vs), m', I1.laid (t' := s1.toks) (fun b u e => Heap.get?_push_of_some _ e) (Nat.le_refl _) ?_, rfl, z1, z2, z3⟩).left e1
  exact ⟨by rw [w1.length]; exact hz, us, 0, rv, Heap.get?_push_size _ rfl⟩

/-! ### chains a < b < c -/
def lChain (g g' : G2) (la lb lc : LE) : LE := fun ρ S => (la ρ S).bind fun x S1 => (lb ρ S1).bind fun y S2 => (lift1 (g S2 x y) S2).bind fun d S3 => match d with
  | .bl true => (lc ρ S3).bind fun z S4 => lift1 (g' S4 y z) S4
  | .bl false => .ok (.bl false) S3
  | _ => .bad
theorem ptl_chain {op op' : CmpOp} {g g' : G2} (ho : OpL X (compareOp op) g) (ho' : OpL X (compareOp op') g') (ha : PEL X a la) (hb : PEL X b lb) (hc : PEL X c lc)
    (hm : lastMarks [op, op'] [b, c] = false := by with_unfolding_all rfl) : PTL X (.Compare a [op, op'] [b, c] pos) (tTru (lChain g g' la lb lc)) := by
  refine ⟨fun pins s σ H m ρ S I x r hp => ?_⟩
  have hp0 : Hope X σ m H (lChain g g' la lb lc ρ S) := by
    unfold tTru at hp
    cases q : lChain g g' la lb lc ρ S with
    | bad => rw [q] at hp; exact absurd rfl hp.1
    | exc C fs S' => rw [q] at hp; exact hp.exc
    | ok d S1 => exact Hope.ok
  refine isTrue_chain (run_seq ha I x r hp0 fun dx S1 q1 v u s1 H1 m1 I1 rv e1 x1 w1 r1 hp1 => test_link (run_seq hb I1 x1 r1 hp1 fun dy S2 q2 v2 u2 s2 H2 m2 I2 rv2 e2 x2 w2 r2 hp2 => ?_)) hm
  cases q3 : g S2 dx dy with
  | none => rw [q3] at hp2; exact absurd rfl hp2.1
  | some d =>
    refine thn (ho.run pins s2 σ H2 m2 S2 v v2 dx dy d u u2 I2 x2 (w1.ext e2 x1.muts) w2 rv rv2 q3) fun w s3 ⟨v3, H3, m3, I3, rv3, e3, x3, w3⟩ => ?_
    rw [q3] at hp2
    have r3 := r2.ext e3 x2.muts
    have hp3 := hp2.ext e3
    cases w3 with
    | bl k =>
      cases rv3
      refine wpAny_truthy_bool ?_
      cases k with
      | false =>
        refine ite_ff ?_
        have e0 : lChain g g' la lb lc ρ S = .ok (.bl false) S2 := by unfold lChain; rw [q1, bind_ok, q2, bind_ok, q3]; rfl
        exact ⟨S2, H3, m3, by unfold tTru; rw [e0]; rfl, I3, (e1.trans e2).trans e3, x3⟩
      | true =>
        have e0 : lChain g g' la lb lc ρ S = (lc ρ S2).bind fun z S4 => lift1 (g' S4 dy z) S4 := by unfold lChain; rw [q1, bind_ok, q2, bind_ok, q3]; rfl
        refine ite_tt (test_last (run_seq hc I3 x3 r3 (show Hope X σ m3 H3 ((lc ρ S2).bind fun z S4 => lift1 (g' S4 dy z) S4) from hp3) fun dz S4 q4 v4 u4 s4 H4 m4 I4 rv4 e4 x4 w4 r4 hp4 => ?_))
        obtain ⟨dd, q5⟩ := lift_ok hp4
        have e5 : lChain g g' la lb lc ρ S = .ok dd S4 := by rw [e0, q4, bind_ok, q5]; rfl
        refine thn (ho'.run pins s4 σ H4 m4 S4 v2 v4 dy dz dd u2 u4 I4 x4 ((w2.ext e3 x2.muts).ext e4 x3.muts) w4 rv2 rv4 q5) fun w' s5 ⟨v5, H5, m5, I5, rv5, e5', x5, w5⟩ => ?_
        refine tru_run (s := s) e5 I5 rv5 ((((e1.trans e2).trans e3).trans e4).trans e5') x5 w5 ?_
        unfold tTru at hp
        rw [e5, bind_ok] at hp
        exact hp.ext ((((e1.trans e2).trans e3).trans e4).trans e5')
    | _ => exact absurd rfl hp2.1
theorem pel_chain {op op' : CmpOp} {g g' : G2} (ho : OpL X (compareOp op) g) (ho' : OpL X (compareOp op') g') (ha : PEL X a la) (hb : PEL X b lb) (hc : PEL X c lc)
    (hm : lastMarks [op, op'] [b, c] = false := by with_unfolding_all rfl) : PEL X (.Compare a [op, op'] [b, c] pos) (lChain g g' la lb lc) := by
  refine ⟨fun pins s σ H m ρ S I x r hp0 => ?_⟩
  refine Compare_chain (run_seq ha I x r hp0 fun dx S1 q1 v u s1 H1 m1 I1 rv e1 x1 w1 r1 hp1 => chain_link (run_seq hb I1 x1 r1 hp1 fun dy S2 q2 v2 u2 s2 H2 m2 I2 rv2 e2 x2 w2 r2 hp2 => ?_)) hm
  cases q3 : g S2 dx dy with
  | none => rw [q3] at hp2; exact absurd rfl hp2.1
  | some d =>
    refine thn (ho.run pins s2 σ H2 m2 S2 v v2 dx dy d u u2 I2 x2 (w1.ext e2 x1.muts) w2 rv rv2 q3) fun w s3 ⟨v3, H3, m3, I3, rv3, e3, x3, w3⟩ => ?_
    rw [q3] at hp2
    have r3 := r2.ext e3 x2.muts
    have hp3 := hp2.ext e3
    cases w3 with
    | bl k =>
      cases rv3
      refine wpAny_truthy_bool ?_
      cases k with
      | false =>
        refine ite_ff ?_
        have e0 : lChain g g' la lb lc ρ S = .ok (.bl false) S2 := by unfold lChain; rw [q1, bind_ok, q2, bind_ok, q3]; rfl
        exact ⟨_, S2, e0, .bl false, H3, m3, I3, rfl, (e1.trans e2).trans e3, x3, .bl _⟩
      | true =>
        have e0 : lChain g g' la lb lc ρ S = (lc ρ S2).bind fun z S4 => lift1 (g' S4 dy z) S4 := by unfold lChain; rw [q1, bind_ok, q2, bind_ok, q3]; rfl
        refine ite_tt (chain_last (run_seq hc I3 x3 r3 (show Hope X σ m3 H3 ((lc ρ S2).bind fun z S4 => lift1 (g' S4 dy z) S4) from hp3) fun dz S4 q4 v4 u4 s4 H4 m4 I4 rv4 e4 x4 w4 r4 hp4 => ?_))
        obtain ⟨dd, q5⟩ := lift_ok hp4
        have e5 : lChain g g' la lb lc ρ S = .ok dd S4 := by rw [e0, q4, bind_ok, q5]; rfl
        rw [e5]
        exact thn (ho'.run pins s4 σ H4 m4 S4 v2 v4 dy dz dd u2 u4 I4 x4 ((w2.ext e3 x2.muts).ext e4 x3.muts) w4 rv2 rv4 q5) fun w' s5 z => (vpr_of z).left (((e1.trans e2).trans e3).trans e4)
    | _ => exact absurd rfl hp2.1
end
end MP

namespace MP
open PySem PySem.Spec PyProof.Rows L2

section
variable {X : Cx} {a b c e o : Expr} {la lb lc l lo : LE} {pos p apos cpos : Pos} {es rest : List Expr} {t : LA} {tc : LT} {x : Str}
/-! ### subscripts -/
structure IxL (X : Cx) (g : G2) : Prop where
  run : ∀ (value slice : Expr) (pins : List (Addr × Obj)) (s : Shared) (σ : L2.St) (H : Hp) (m : List Addr) (S : Sto) (x y : V) (dx dy d : D) (v u : Value), Inv X pins σ H s → SR X.K m H S → VR X.K m H x dx → VR X.K m H y dy → RelV x v → RelV y u → g S dx dy = some d →
    (∀ o i, subscripted slice false o i = operate [o, i] (getItem o i)) → wpAny (model X.prog X.w) X.A (subscriptTail value slice v u) (VP X pins σ m H d S) X.xe s
theorem IxL.of {r : R2} {g : G2} (h : IxR X r)
    (hg : ∀ (H : Hp) (m : List Addr) (S : Sto) (x y : V) (dx dy d : D), SR X.K m H S → VR X.K m H x dx → VR X.K m H y dy → g S dx dy = some d → r x y H (QV X.K m H S d)) : IxL X g :=
  ⟨fun value slice pins s σ H m S x y dx dy d v u I q rx ry ex ey e hs => thn (h value slice pins s σ H x y v u _ I ex ey (hg H m S x y dx dy d q rx ry e) (hs _ _)) fun _ _ z => vp_of z⟩
theorem IxL.or {g g' : G2} (h : IxL X g) (h' : IxL X g') : IxL X (fun S x y => (g S x y).or (g' S x y)) :=
  ⟨fun value slice pins s σ H m S x y dx dy d v u I q rx ry ex ey e hs => by
    cases z : g S dx dy with
    | some d' =>
      rw [z] at e
      cases e
      exact h.run value slice pins s σ H m S x y dx dy _ v u I q rx ry ex ey z hs
    | none =>
      rw [z] at e
      exact h'.run value slice pins s σ H m S x y dx dy _ v u I q rx ry ex ey e hs⟩
theorem pel_ix {g : G2} (hr : IxL X g) (ha : PEL X a la) (hb : PEL X b lb) (hs : PlainIx b := by intro _ _; rfl) : PEL X (.Subscript a b pos) (lBin g la lb) := by
  refine ⟨fun pins s σ H m ρ S I x r hp => ?_⟩
  refine Subscript_ (run_seq ha I x r hp fun dx S1 q1 v u s1 H1 m1 I1 rv e1 x1 w1 r1 hp1 => run_seq hb I1 x1 r1 hp1 fun dy S2 q2 v2 u2 s2 H2 m2 I2 rv2 e2 x2 w2 r2 hp2 => ?_)
  obtain ⟨d, q3⟩ := lift_ok hp2
  have e : lBin g la lb ρ S = .ok d S2 := by
    unfold lBin; rw [q1, bind_ok, q2, bind_ok, q3]; rfl
  rw [e]
  exact thn (hr.run a b pins s2 σ H2 m2 S2 v v2 dx dy d u u2 I2 x2 (w1.ext e2 x1.muts) w2 rv rv2 q3 hs) fun _ _ z => (vpr_of z).left (e1.trans e2)
def gIx : G2 := fun S x y => match vw S x, vw S y with
  | .lst xs, .int i => atI xs i
  | .tup xs, .int i => atI xs i
  | .str z, .int i => if z.length ≤ sizeLine then (atI z.cps.toList i).map fun c => .str ⟨#[c]⟩ else none
  | _, _ => none
theorem VRs.atI {K : PySem.W.Frag} {m : List Addr} {H : Hp} {vs : List V} {ds : List D} {i : Int} {d : D} (r : VRs K m H vs ds) (e : atI ds i = some d) : ∃ v, L2.atI vs i = some v ∧ VR K m H v d := by
  unfold L2.atI at e ⊢
  rw [r.length]
  cases q : ixN ds.length i with
  | none => rw [q] at e; cases e
  | some j =>
    rw [q] at e
    exact r.getr e
theorem ixl_seq : IxL X gIx := .of ix_seq fun H m S x y dx dy d q rx ry e => by
  unfold gIx at e
  split at e
  · rename_i xs i e1 e2
    obtain ⟨a, vs, rfl, h1, r⟩ := vw_lst q rx e1
    obtain ⟨v, h2, w⟩ := r.atI e
    exact .inl ⟨a, vs, i, v, rfl, vw_int ry e2, h1, h2, qv_same q w⟩
  · rename_i xs i e1 e2
    obtain ⟨a, vs, rfl, h1, r⟩ := vw_tup rx e1
    obtain ⟨v, h2, w⟩ := r.atI e
    exact .inr (.inl ⟨a, vs, i, v, rfl, vw_int ry e2, SqT.of h1, h2, qv_same q w⟩)
  · rename_i z i e1 e2
    split at e
    · cases h : L2.atI z.cps.toList i with
      | none => rw [h] at e; cases e
      | some c =>
        rw [h] at e
        cases e
        exact .inr (.inr ⟨z, i, c, vw_str rx e1, vw_int ry e2, ‹_›, h, qv_same q (.str _)⟩)
    · cases e
  · cases e

/-! ### slices -/
abbrev LO := Ev → Sto → R (Option Int)
structure POL (X : Cx) (e : Option Expr) (l : LO) : Prop where
  run : ∀ (pins : List (Addr × Obj)) (s : Shared) (σ : L2.St) (H : Hp) (m : List Addr) (ρ : Ev) (S : Sto), Inv X pins σ H s → SR X.K m H S → ER X.K m H σ ρ → Hope X σ m H (l ρ S) →
    wpAny (model X.prog X.w) X.A (evalPart e X.env) (fun u s' => ∃ o S' H' m', l ρ S = .ok o S' ∧ Inv X pins σ H' s' ∧ IsPart u o ∧ Ext m H m' H' ∧ SR X.K m' H' S') X.xe s
def oNone : LO := fun _ S => .ok none S
def oSome (l : LE) : LO := fun ρ S => (l ρ S).bind fun d S1 => match d with
  | .int i => .ok (some i) S1
  | _ => .bad
theorem pol_none : POL X none oNone := ⟨fun pins s σ H m ρ S I x r hp => by
  rw [evalPart_none]
  exact wpAny_pure ⟨none, S, H, m, rfl, I, .none, Ext.refl, x⟩⟩
theorem pol_some (h : PEL X e l) : POL X (some e) (oSome l) := ⟨fun pins s σ H m ρ S I x r hp => by
  rw [evalPart_some]
  refine run_seq h I x r hp fun d S1 q1 v u s1 H1 m1 I1 rv e1 x1 w1 r1 hp1 => ?_
  cases w1 with
  | int i =>
    obtain ⟨t, rfl⟩ := rv
    exact ⟨some i, S1, H1, m1, by unfold oSome; rw [q1]; rfl, I1, .int i t, e1, x1⟩
  | _ => exact absurd rfl hp1.1⟩
def lSlice (g : Sto → D → Option Int → Option Int → Option D) (la : LE) (lo hi : LO) : LE := fun ρ S => (la ρ S).bind fun d S1 => (lo ρ S1).bind fun i S2 => (hi ρ S2).bind fun j S3 => lift1 (g S3 d i j) S3
structure SlL (X : Cx) (g : Sto → D → Option Int → Option Int → Option D) : Prop where
  run : ∀ (pins : List (Addr × Obj)) (s : Shared) (σ : L2.St) (H : Hp) (m : List Addr) (S : Sto) (x : V) (dx d : D) (v vl vu : Value) (lo hi : Option Int) (sl : Addr), Inv X pins σ H s → SR X.K m H S → VR X.K m H x dx → RelV x v → s.heap.IsSliceOf sl vl vu .none → IsPart vl lo → IsPart vu hi → g S dx lo hi = some d →
    ∃ T id, typeLookup (.type T) "__getitem__" = pure (some (.builtin id)) ∧ s.TypeIs v T ∧ wpAny (model X.prog X.w) X.A (getItem v (.ref sl)) (VP X pins σ m H d S) X.xe s
theorem hope_seq {α β : Type} {r : R α} {f : α → Sto → R β} {X : Cx} {σ : L2.St} {m : List Addr} {H : Hp} (h : Hope X σ m H (r.bind f)) : Hope X σ m H r := by
  cases r with
  | bad => exact absurd rfl h.1
  | exc C fs S' => exact h.exc
  | ok a S => exact Hope.ok
theorem pel_slice {g : Sto → D → Option Int → Option Int → Option D} {lo hi : Option Expr} {l1 l2 : LO} {p2 : Pos} (hr : SlL X g) (he : PEL X e l) (hl : POL X lo l1) (hu : POL X hi l2) : PEL X (.Subscript e (.Slice lo hi none p2) pos) (lSlice g l l1 l2) := by
  refine ⟨fun pins s σ H m ρ S I x r hp => ?_⟩
  refine Subscript_ (run_seq he I x r hp fun dx S1 q1 v u s1 H1 m1 I1 rv e1 x1 w1 r1 hp1 => ?_)
  refine wpAny_Slice (thn (hl.run pins s1 σ H1 m1 ρ S1 I1 x1 r1 (hope_seq hp1)) fun vl s2 ⟨i, S2, H2, m2, q2, I2, pl, e2, x2⟩ => ?_)
  rw [q2, bind_ok] at hp1
  have r2 := r1.ext e2 x1.muts
  have hp2 := Hope.ext hp1 e2
  refine thn (hu.run pins s2 σ H2 m2 ρ S2 I2 x2 r2 (hope_seq hp2)) fun vu s3 ⟨j, S3, H3, m3, q3, I3, pu, e3, x3⟩ => ?_
  rw [q3, bind_ok] at hp2
  obtain ⟨d, q4⟩ := lift_ok hp2
  rw [evalPart_none]
  refine wpAny_pure ?_
  have I4 : Inv X pins σ H3 { s3 with heap := s3.heap.push { cls := .type "slice", data := .fields #[vl, vu, .none] } } := I3.kept (t' := s3.toks) fun b ob q => Heap.get?_push_of_some _ q
  have w3 := (w1.ext e2 x1.muts).ext e3 x2.muts
  obtain ⟨T, id, hT, ht, hg⟩ := hr.run pins { s3 with heap := s3.heap.push { cls := .type "slice", data := .fields #[vl, vu, .none] } } σ H3 m3 S3 v dx d u vl vu i j s3.heap.objs.size I4 x3 w3 rv (Heap.IsSliceOf.new ..) pl pu q4
  have e0 : lSlice g l l1 l2 ρ S = .ok d S3 := by unfold lSlice; rw [q1, bind_ok, q2, bind_ok, q3, bind_ok, q4]; rfl
  rw [e0]
  show wpAny (model X.prog X.w) X.A (subscriptTail e (.Slice lo hi none p2) u (.ref s3.heap.objs.size)) _ X.xe { s3 with heap := s3.heap.push { cls := .type "slice", data := .fields #[vl, vu, .none] } }
  exact tail_any (ops := [.ref s3.heap.objs.size, u]) ht hT (thn hg fun _ _ z => (vpr_of z).left ((e1.trans e2).trans e3)) (by with_unfolding_all rfl)
def cutD (xs : List D) (lo hi : Option Int) : List D := (xs.drop (HT.sIx xs.length 0 lo)).take (HT.sIx xs.length xs.length hi - HT.sIx xs.length 0 lo)
theorem VRs.cut {K : PySem.W.Frag} {m : List Addr} {H : Hp} {vs : List V} {ds : List D} (r : VRs K m H vs ds) (lo hi : Option Int) : VRs K m H (cutV vs lo hi) (cutD ds lo hi) := by
  unfold cutV cutD
  rw [r.length]
  exact (r.drop _).take _
def gSlice (S : Sto) (x : D) (lo hi : Option Int) : Option D := match vw S x with
  | .lst xs => some (.lst (cutD xs lo hi))
  | .tup xs => some (.tup (cutD xs lo hi))
  | .str z => if z.length ≤ sizeLine then some (.str (cutS z lo hi)) else none
  | _ => none
theorem sIx_whole (n : Nat) {lo hi : Option Int} {ds : List D} (h : HT.sIx ds.length 0 lo = 0 ∧ HT.sIx ds.length ds.length hi = ds.length) : cutD ds lo hi = ds := by
  unfold cutD
  rw [h.1, h.2]
  simp
theorem sll_any : SlL X gSlice := ⟨fun pins s σ H m S x dx d v vl vu lo hi sl I q rx ev hs pl pu e => by
  unfold gSlice at e
  split at e
  · rename_i xs e1
    cases e
    obtain ⟨a, vs, rfl, h1, r⟩ := vw_lst q rx e1
    obtain ⟨T, id, h2, h3, h4⟩ := sl_list pins s σ H _ v vl vu lo hi sl (QV X.K m H S (.lst (cutD xs lo hi))) I ev hs pl pu ⟨a, vs, rfl, h1, fun p hp => qv_new q hp (vr_newLst q hp (r.cut lo hi))⟩
    exact ⟨T, id, h2, h3, thn h4 fun _ _ z => vp_of z⟩
  · rename_i xs e1
    cases e
    obtain ⟨a, vs, rfl, h1, r⟩ := vw_tup rx e1
    obtain ⟨T, id, h2, h3, h4⟩ := sl_tupA pins s σ H _ v vl vu lo hi sl (QV X.K m H S (.tup (cutD xs lo hi))) I ev hs pl pu
      ⟨a, vs, rfl, SqT.of h1, fun z => qv_same q (by rw [r.length] at z; rw [sIx_whole 0 z]; exact .tup h1 r), fun _ p hp => qv_new q hp (vr_newTup q hp (r.cut lo hi))⟩
    exact ⟨T, id, h2, h3, thn h4 fun _ _ z => vp_of z⟩
  · rename_i z e1
    split at e
    · cases e
      have e2 := vw_str rx e1
      subst e2
      obtain ⟨T, id, h2, h3, h4⟩ := sl_str pins s σ H _ v vl vu lo hi sl (QV X.K m H S (.str (cutS z lo hi))) I ev hs pl pu ⟨z, rfl, ‹_›, qv_same q (.str _)⟩
      exact ⟨T, id, h2, h3, thn h4 fun _ _ z => vp_of z⟩
    · cases e
  · cases e⟩

/-! ### attributes of objects -/
theorem VFs.look {K : PySem.W.Frag} {m : List Addr} {H : Hp} {fs : List (Str × V)} {gs : List (Str × D)} {f : Str} {d : D} : VFs K m H fs gs → gs.lookup f = some d → ∃ v, fs.lookup f = some v ∧ VR K m H v d
  | .nil, e => by simp at e
  | @VFs.cons _ _ _ g v d' vs ds h r, e => by
    by_cases q : f = g
    · subst q
      simp [List.lookup] at e
      subst e
      exact ⟨v, by simp [List.lookup], h⟩
    · have hb : (f == g) = false := beq_eq_false_iff_ne.mpr q
      simp only [List.lookup, hb] at e ⊢
      exact VFs.look r e
theorem VFs.lookN {K : PySem.W.Frag} {m : List Addr} {H : Hp} {fs : List (Str × V)} {gs : List (Str × D)} {f : Str} : VFs K m H fs gs → gs.lookup f = none → fs.lookup f = none
  | .nil, e => rfl
  | @VFs.cons _ _ _ g v d' vs ds h r, e => by
    by_cases q : f = g
    · subst q
      simp [List.lookup] at e
    · have hb : (f == g) = false := beq_eq_false_iff_ne.mpr q
      simp only [List.lookup, hb] at e ⊢
      exact VFs.lookN r e
def gFld (C : Addr) (f : Str) (S : Sto) (d : D) : Option D := match vw S d with
  | .obj C' fs => if C' = C then fs.lookup f else none
  | _ => none
def lFld (C : Addr) (f : Str) (l : LE) : LE := fun ρ S => (l ρ S).bind fun d S1 => lift1 (gFld C f S1 d) S1
theorem pel_fld {C : Addr} {f : Str} (cl : Cls X.K C) (na : NoAttr X.K C f) (he : PEL X e l) (hb : attributeBase e f X.env (eval e X.env) = eval e X.env := by rfl) : PEL X (.Attribute e f pos) (lFld C f l) := by
  refine ⟨fun pins s σ H m ρ S I x r hp => ?_⟩
  refine attr_of hb (run_seq he I x r hp fun d S1 q1 v u s1 H1 m1 I1 rv e1 x1 w1 r1 hp1 => ?_)
  obtain ⟨d', q2⟩ := lift_ok hp1
  have e0 : lFld C f l ρ S = .ok d' S1 := by unfold lFld; rw [q1, bind_ok, q2]; rfl
  rw [e0]
  unfold gFld at q2
  split at q2
  · rename_i C' gs q3
    split at q2
    · rename_i q4
      subst q4
      obtain ⟨a, dx, fs, rfl, h1, r2⟩ := vw_obj x1 w1 q3
      obtain ⟨w, h2, h3⟩ := r2.look q2
      obtain rfl : u = Value.ref a := rv
      exact getattr_ok I1 h1 cl na h2 fun u' s2 I2 ru => (vpr_of ⟨w, H1, m1, I2, ru, Ext.refl, x1, h3⟩).left e1
    · cases q2
  · cases q2

/-! ### built-in functions and types, called by values -/
abbrev GC := Sto → List D → Option D
structure CallL (X : Cx) (f : Value) (g : GC) : Prop where
  run : ∀ (pins : List (Addr × Obj)) (s : Shared) (σ : L2.St) (H : Hp) (m : List Addr) (S : Sto) (xs : List V) (ds : List D) (d : D) (us : List Value), Inv X pins σ H s → SR X.K m H S → VRs X.K m H xs ds → Vals xs us → g S ds = some d →
    wpAny (model X.prog X.w) X.A (call f us) (VP X pins σ m H d S) X.xe s
theorem CallL.of {f : Value} {r : List V → Hp → VK → Prop} {g : GC} (h : CallR X f r) (hg : ∀ (H : Hp) (m : List Addr) (S : Sto) (xs : List V) (ds : List D) (d : D), SR X.K m H S → VRs X.K m H xs ds → g S ds = some d → r xs H (QV X.K m H S d)) : CallL X f g :=
  ⟨fun pins s σ H m S xs ds d us I q r rv e => thn (h pins s σ H xs us _ I rv (hg H m S xs ds d q r e)) fun _ _ z => vp_of z⟩
theorem CallL.or {f : Value} {g g' : GC} (h : CallL X f g) (h' : CallL X f g') : CallL X f (fun S ds => (g S ds).or (g' S ds)) :=
  ⟨fun pins s σ H m S xs ds d us I q r rv e => by
    cases z : g S ds with
    | some d' =>
      rw [z] at e
      cases e
      exact h.run pins s σ H m S xs ds _ us I q r rv z
    | none =>
      rw [z] at e
      exact h'.run pins s σ H m S xs ds _ us I q r rv e⟩
def lCallB (g : GC) (t : LA) : LE := fun ρ S => (t ρ S).bind fun ds S1 => lift1 (g S1 ds) S1
theorem pel_callB {id : String} {g : GC} (hc : CallL X (.builtin id) g) (hg : Gl X x) (hm : X.mg x = none) (hv : bootBuiltins x = some (.builtin id)) (ha : PAL X (e :: es) t) (hn : x ≠ "__name__" := by decide) (hdb : (x == ("__debug__" : Str)) = false := by decide)
    (he : starEach (e :: es) X.env = (false, eval e X.env) :: starEach es X.env := by rfl) (hpl : (backTo pos (starEach es X.env)).any (·.1) = false := by rfl) : PEL X (.Call (.Name x p) (e :: es) [] pos) (lCallB g t) := by
  refine ⟨fun pins s σ H m ρ S I x r hp => ?_⟩
  refine wpAny_Call_Name_kw (ld_blt I hg hm hv ?_ hn hdb)
  refine PyProof.Rows.callWith_builtin1 (run_seqA ha I x r hp fun ds S1 q1 vs us s1 H1 m1 I1 rv e1 x1 w1 r1 hp1 => ?_) he hpl
  obtain ⟨d', q2⟩ := lift_ok hp1
  have e0 : lCallB g t ρ S = .ok d' S1 := by unfold lCallB; rw [q1, bind_ok, q2]; rfl
  rw [e0]
  exact thn (hc.run pins s1 σ H1 m1 S1 vs ds d' us I1 x1 w1 rv q2) fun _ _ z => (vpr_of z).left e1
theorem pel_callTy {T : String} {g : GC} (hc : CallL X (.type T) g) (hg : Gl X x) (hm : X.mg x = none) (hv : bootBuiltins x = some (.type T)) (ha : PAL X (e :: es) t) (hn : x ≠ "__name__" := by decide) (hdb : (x == ("__debug__" : Str)) = false := by decide)
    (he : starEach (e :: es) X.env = (false, eval e X.env) :: starEach es X.env := by rfl) (hpl : (backTo pos (starEach es X.env)).any (·.1) = false := by rfl) : PEL X (.Call (.Name x p) (e :: es) [] pos) (lCallB g t) := by
  refine ⟨fun pins s σ H m ρ S I x r hp => ?_⟩
  refine wpAny_Call_Name_kw (ld_blt I hg hm hv ?_ hn hdb)
  refine PyProof.Rows.callWith_type1 (run_seqA ha I x r hp fun ds S1 q1 vs us s1 H1 m1 I1 rv e1 x1 w1 r1 hp1 => ?_) he hpl
  obtain ⟨d', q2⟩ := lift_ok hp1
  have e0 : lCallB g t ρ S = .ok d' S1 := by unfold lCallB; rw [q1, bind_ok, q2]; rfl
  rw [e0]
  exact thn (hc.run pins s1 σ H1 m1 S1 vs ds d' us I1 x1 w1 rv q2) fun _ _ z => (vpr_of z).left e1
end
end MP

namespace MP
open PySem PySem.Spec PyProof.Rows L2

/-! ### room, and no repr under way (L2.Room and L2.FnOk, with the guards) -/
structure Room (k : Nat) (A : Around) : Prop where
  r : L2.Room k A
  g : A.guards = some []
theorem Room.mono {j k : Nat} {A : Around} (r : MP.Room k A) (h : j ≤ k) : MP.Room j A := ⟨r.r.mono h, r.g⟩
theorem Room.deeper {k : Nat} {A : Around} (r : MP.Room (k + 1) A) (env : Env) : MP.Room k (A.deeper env) := ⟨r.r.deeper env, r.g⟩
theorem Room.in1 {k : Nat} {A : Around} (r : MP.Room (k + 1) A) : MP.Room k A.in1 := ⟨r.r.in1, r.g⟩
theorem Room.make {k : Nat} {A : Around} (r : MP.Room (k + 1) A) (C : Addr) (us : List Value) (kw : List (Str × Value)) : MP.Room k (A.under (.builtin "type.__call__" ⟨.ref C :: us, kw⟩)) :=
  ⟨r.r.make C us kw, by
    have h := r.g
    first
      | exact h
      | (simp [Around.under, Code.guards, pushGuards, Code.isGuard, guardIds, h])⟩
theorem Room.depth {k : Nat} {A : Around} (r : MP.Room k A) : A.depth < recursionLimit := r.r.depth
theorem Room.units {k : Nat} {A : Around} (r : MP.Room k A) : A.units + 64 < cLine := r.r.units
theorem Room.units0 {k : Nat} {A : Around} (r : MP.Room k A) : A.units < cLine := r.r.units0
theorem Room.hd {k : Nat} {A : Around} (r : MP.Room k A) : A.handled = none := r.r.hd
structure FnOk (P : Program) (w : World) (K : PySem.W.Frag) (mg : Str → Option Value) (base : Heap) (CX : CXT) (k : Nat) (f : Addr) (fd : FuncData) (ps : List Str) (sp : Sp) : Prop where
  len : ∀ vs H Q E, sp vs H Q E → vs.length = ps.length
  run : ∀ (A : Around) (outer : List Env) (s : Shared) (H : Hp) (args : Args) (us : List Value) (vs : List V) (Q : VK) (E : XK), MP.Room k A → Env0 P w K mg base A outer s H → BindsTo s fd args (ps.zip us) → Vals vs us → sp vs H Q E →
    codeAny (model P w) A (.call (.ref f) args) (CR CX outer P w H s Q E) s
theorem FnOk.imp {P : Program} {w : World} {K : PySem.W.Frag} {mg : Str → Option Value} {base : Heap} {CX : CXT} {k : Nat} {f : Addr} {fd : FuncData} {ps : List Str} {sp sp' : Sp} (F : MP.FnOk P w K mg base CX k f fd ps sp)
    (h : ∀ vs H Q E, sp' vs H Q E → sp vs H Q E) : MP.FnOk P w K mg base CX k f fd ps sp' :=
  ⟨fun vs H Q E q => F.len vs H Q E (h _ _ _ _ q), fun A outer s H args us vs Q E hr he hb hv hs => F.run A outer s H args us vs Q E hr he hb hv (h _ _ _ _ hs)⟩

/-! ### what a def promises, by the store -/
abbrev F := List D → Sto → R D
def spL (K : PySem.W.Frag) (f : F) (n : Nat) : Sp := fun vs H Q E => vs.length = n ∧ ∃ m S ds, SR K m H S ∧ VRs K m H vs ds ∧ f ds S ≠ .bad ∧ (∀ d S', f ds S = .ok d S' → ∀ v H', QV K m H S' d v H' → Q v H') ∧
  ∀ C fs S', f ds S = .exc C fs S' → ∀ cls d H', WL K m H C fs S' cls d H' → E cls d H'
abbrev FnL (P : Program) (w : World) (K : PySem.W.Frag) (mg : Str → Option Value) (base : Heap) (k : Nat) (f : Addr) (fd : FuncData) (ps : List Str) (g : F) : Prop := FnOk P w K mg base (L2.CX P w) k f fd ps (spL K g ps.length)

section
variable {X : Cx} {a b c e o : Expr} {la lb lc l lo : LE} {pos p apos cpos : Pos} {es rest : List Expr} {t : LA} {tc : LT} {x mn : Str} {k : Nat} {f C : Addr} {fd : FuncData} {ps : List Str} {g : F}
theorem run_fnL {pins : List (Addr × Obj)} {σ : L2.St} {H : Hp} {s : Shared} {us ds0 : List Value} {vs dvs : List V} {m : List Addr} {S : Sto} {ds dd : List D} (Fn : FnL X.prog X.w X.K X.mg X.base k f fd ps g) (hr : Room k X.A) (hb : Binds X.K fd ps ds0) (hd : Vals dvs ds0) (hdd : VRs X.K m H dvs dd)
    (I : Inv X pins σ H s) (x : SR X.K m H S) (r : Vals vs us) (rd : VRs X.K m H vs ds) (hl : (vs ++ dvs).length = ps.length) (hp : Hope X σ m H (g (ds ++ dd) S)) :
    wpAny (model X.prog X.w) X.A (call (.ref f) us) (VPr X pins σ m H (g (ds ++ dd) S)) X.xe s := by
  have r2 : Vals (vs ++ dvs) (us ++ ds0) := r.append hd
  have hl2 : (us ++ ds0).length = ps.length := by rw [← r2.length]; exact hl
  have rd2 : VRs X.K m H (vs ++ dvs) (ds ++ dd) := rd.append hdd
  have hsp : spL X.K g ps.length (vs ++ dvs) H (fun v H' => ∃ d S', g (ds ++ dd) S = .ok d S' ∧ QV X.K m H S' d v H') (fun cls d H' => ∃ C fs S', g (ds ++ dd) S = .exc C fs S' ∧ WL X.K m H C fs S' cls d H') :=
    ⟨hl, m, S, ds ++ dd, x, rd2, hp.1, fun d S' q v H' z => ⟨d, S', q, z⟩, fun C fs S' q cls d H' z => ⟨C, fs, S', q, z⟩⟩
  refine wpAny_call (codeAny_mono (Fn.run X.A X.stack s H ⟨us, []⟩ (us ++ ds0) (vs ++ dvs) _ _ hr I.env0 (hb s us I.kIn hl2) r2 hsp) fun r s' hq => ?_)
  cases r with
  | error e =>
    cases q : g (ds ++ dd) S with
    | bad => rw [q] at hp; exact absurd rfl hp.1
    | ok d S' =>
      obtain ⟨_, _, _, _, _, _, _, _, _, _, _, _, C, fs, S', q', _⟩ := hq
      rw [q] at q'; cases q'
    | exc C fs S' =>
      refine hp.2 C fs S' q e s' (XE.of_call I (fun cls d H' w => ?_) hq)
      obtain ⟨C', fs', S'', q', w⟩ := w
      rw [q] at q'; cases q'
      exact ⟨rfl, w⟩
  | ok fl =>
    cases fl with
    | ret u =>
      obtain ⟨v, H', I', rv, d, S', q, m', e, x', w⟩ := I.after hq
      exact ⟨d, S', q, v, H', m', I', rv, e, x', w⟩
    | next => exact False.elim hq
    | brk => exact False.elim hq
    | cont => exact False.elim hq
/-- what a call's values by default are -/
structure Dfl (K : PySem.W.Frag) (dvs : List V) (ds0 : List Value) (dd : List D) : Prop where
  vals : Vals dvs ds0
  rel : ∀ m H, VRs K m H dvs dd
theorem dfl_nil {K : PySem.W.Frag} : Dfl K [] [] [] := ⟨.nil, fun _ _ => .nil⟩
def lCall (n : Nat) (g : F) (dd : List D) (t : LA) : LE := fun ρ S => (t ρ S).bind fun ds S1 => if ds.length + dd.length = n then g (ds ++ dd) S1 else .bad
theorem pel_call {ds0 : List Value} {dvs : List V} {dd : List D} (Fn : FnL X.prog X.w X.K X.mg X.base k f fd ps g) (hr : Room k X.A) (hg : Gl X x) (hm : X.mg x = some (.ref f)) (hk : PySem.W.keepIn X.K (.ref f) = true) (hb : Binds X.K fd ps ds0) (hd : Dfl X.K dvs ds0 dd)
    (ha : PAL X (e :: es) t) (hdb : (x == ("__debug__" : Str)) = false := by decide) (he : starEach (e :: es) X.env = (false, eval e X.env) :: starEach es X.env := by rfl) (hpl : (backTo pos (starEach es X.env)).any (·.1) = false := by rfl) :
    PEL X (.Call (.Name x p) (e :: es) [] pos) (lCall ps.length g dd t) := by
  refine ⟨fun pins s σ H m ρ S I x r hp => ?_⟩
  refine wpAny_Call_Name_kw (ld_glob I hg hm ?_ hdb)
  refine PySem.W.callWith_K (h₀ := X.base) I.ok.mod.kin hk (run_seqA ha I x r hp fun ds S1 q1 vs us s1 H1 m1 I1 rv e1 x1 w1 r1 hp1 => ⟨I1.kIn, ?_⟩) he hpl
  have hl := hope_if hp1
  rw [if_pos hl] at hp1
  have e0 : lCall ps.length g dd t ρ S = g (ds ++ dd) S1 := by unfold lCall; rw [q1, bind_ok, if_pos hl]
  rw [e0]
  exact thn (run_fnL Fn hr hb hd.vals (hd.rel _ _) I1 x1 rv w1 (by rw [List.length_append, w1.length, (hd.rel m1 H1).length]; exact hl) hp1) fun _ _ z => z.left e1
theorem pel_call0 {ds0 : List Value} {dvs : List V} {dd : List D} (Fn : FnL X.prog X.w X.K X.mg X.base k f fd ps g) (hr : Room k X.A) (hg : Gl X x) (hm : X.mg x = some (.ref f)) (hk : PySem.W.keepIn X.K (.ref f) = true) (hb : Binds X.K fd ps ds0) (hd : Dfl X.K dvs ds0 dd)
    (hdb : (x == ("__debug__" : Str)) = false := by decide) : PEL X (.Call (.Name x p) [] [] pos) (lCall ps.length g dd aNil) := by
  refine ⟨fun pins s σ H m ρ S I x r hp => ?_⟩
  refine wpAny_Call_Name_kw (ld_glob I hg hm ?_ hdb)
  have hp1 : Hope X σ m H (if ([] : List D).length + dd.length = ps.length then g ([] ++ dd) S else .bad) := hp
  have hl := hope_if hp1
  rw [if_pos hl] at hp1
  have e0 : lCall ps.length g dd aNil ρ S = g ([] ++ dd) S := by show (if ([] : List D).length + dd.length = ps.length then g ([] ++ dd) S else .bad) = _; rw [if_pos hl]
  rw [e0]
  exact PySem.W.callWith_K0 I.kIn hk (run_fnL (us := []) Fn hr hb hd.vals (hd.rel _ _) I x .nil .nil (by rw [List.nil_append, (hd.rel m H).length]; simpa using hl) hp1)

/-- o.m(..): C the object's class -/
def recv (C : Addr) (mn : Str) (S : Sto) (d : D) : Bool := match vw S d with
  | .obj C' fs => decide (C' = C) && (fs.lookup mn).isNone
  | _ => false
def lMeth (C : Addr) (mn : Str) (n : Nat) (g : F) (dd : List D) (lo : LE) (t : LA) : LE := fun ρ S => (lo ρ S).bind fun d S0 => if recv C mn S0 d = true then (t ρ S0).bind fun ds S1 => if (ds.length + dd.length) + 1 = n then g (d :: (ds ++ dd)) S1 else .bad else .bad
theorem recv_at {K : PySem.W.Frag} {m : List Addr} {H : Hp} {S : Sto} {v : V} {d : D} (x : SR K m H S) (r : VR K m H v d) (h : recv C mn S d = true) : ∃ a dx fs, v = .ref a ∧ H a = some (.ins C dx fs) ∧ fs.lookup mn = none := by
  unfold recv at h
  split at h
  · rename_i C' gs q
    rw [Bool.and_eq_true] at h
    have h1 := of_decide_eq_true h.1
    subst h1
    obtain ⟨a, dx, fs, rfl, h2, r2⟩ := vw_obj x r q
    exact ⟨a, dx, fs, rfl, h2, r2.lookN (Option.isNone_iff_eq_none.mp h.2)⟩
  · cases h
theorem pel_meth {pl : Sem Bool} {ds0 : List Value} {dvs : List V} {dd : List D} (c : Cls X.K C) (hm : Meth X.K C mn f) (Fn : FnL X.prog X.w X.K X.mg X.base k f fd ps g) (hr : Room k X.A) (hb : Binds X.K fd ps ds0) (hd : Dfl X.K dvs ds0 dd) (he : PEL X o lo) (ha : PAL X (e :: es) t)
    (hst : starEach (e :: es) X.env = (false, eval e X.env) :: starEach es X.env := by rfl) (hpl : (backTo pos (starEach es X.env)).any (·.1) = false := by rfl)
    (ht : eval (.Call (.Attribute o mn apos) (e :: es) [] pos) X.env = (do
      let ov ← eval o X.env
      standAt apos.atName
      let (f, first) ← holding [ov] (getMethod ov mn pl)
      callWith pos f first (backTo pos (starEach (e :: es) X.env)) (backToKw pos (keywordEach [] X.env))) := by rfl) :
    PEL X (.Call (.Attribute o mn apos) (e :: es) [] pos) (lMeth C mn ps.length g dd lo t) := by
  refine ⟨fun pins s σ H m ρ S I x r hp => ?_⟩
  refine PySem.W.methodCall_KW (pl := pl) (run_seq he I x r hp fun d S0 q0 v u s0 H0 m0 I0 rv0 e0 x0 w0 r0 hp0 => ?_) ht
  have hc := hope_if hp0
  rw [if_pos hc] at hp0
  obtain ⟨a, dx, fs, rfl, ea, hl⟩ := recv_at x0 w0 hc
  obtain rfl : u = Value.ref a := rv0
  refine getmeth_ok I0 ea c hm hl ?_
  refine PySem.W.callWith_K (first := [.ref a]) (h₀ := X.base) I.ok.mod.kin hm.kp (run_seqA ha I0 x0 r0 hp0 fun ds S1 q1 vs us s1 H1 m1 I1 rv1 e1 x1 w1 r1 hp1 => ⟨I1.kIn, ?_⟩) hst hpl
  have hn := hope_if hp1
  rw [if_pos hn] at hp1
  have ez : lMeth C mn ps.length g dd lo t ρ S = g (d :: (ds ++ dd)) S1 := by unfold lMeth; rw [q0, bind_ok, if_pos hc, q1, bind_ok, if_pos hn]
  rw [ez]
  exact thn (run_fnL (us := .ref a :: us) (vs := .ref a :: vs) (ds := d :: ds) Fn hr hb hd.vals (hd.rel _ _) I1 x1 (.cons rfl rv1) (.cons (w0.ext e1 x0.muts) w1)
    (by rw [List.cons_append, List.length_cons, List.length_append, w1.length, (hd.rel m1 H1).length]; exact hn) hp1) fun _ _ z => z.left (e0.trans e1)
theorem pel_meth0 {pl : Sem Bool} {ds0 : List Value} {dvs : List V} {dd : List D} (c : Cls X.K C) (hm : Meth X.K C mn f) (Fn : FnL X.prog X.w X.K X.mg X.base k f fd ps g) (hr : Room k X.A) (hb : Binds X.K fd ps ds0) (hd : Dfl X.K dvs ds0 dd) (he : PEL X o lo)
    (ht : eval (.Call (.Attribute o mn apos) [] [] pos) X.env = (do
      let ov ← eval o X.env
      standAt apos.atName
      let (f, first) ← holding [ov] (getMethod ov mn pl)
      callWith pos f first (backTo pos (starEach [] X.env)) (backToKw pos (keywordEach [] X.env))) := by rfl) :
    PEL X (.Call (.Attribute o mn apos) [] [] pos) (lMeth C mn ps.length g dd lo aNil) := by
  refine ⟨fun pins s σ H m ρ S I x r hp => ?_⟩
  refine PySem.W.methodCall_KW (pl := pl) (run_seq he I x r hp fun d S0 q0 v u s0 H0 m0 I0 rv0 e0 x0 w0 r0 hp0 => ?_) ht
  have hc := hope_if hp0
  rw [if_pos hc] at hp0
  obtain ⟨a, dx, fs, rfl, ea, hl⟩ := recv_at x0 w0 hc
  obtain rfl : u = Value.ref a := rv0
  refine getmeth_ok I0 ea c hm hl ?_
  have hp1 : Hope X σ m0 H0 (if (([] : List D).length + dd.length) + 1 = ps.length then g (d :: ([] ++ dd)) S0 else .bad) := hp0
  have hn := hope_if hp1
  rw [if_pos hn] at hp1
  have ez : lMeth C mn ps.length g dd lo aNil ρ S = g (d :: ([] ++ dd)) S0 := by
    unfold lMeth; rw [q0, bind_ok, if_pos hc]
    show (if (([] : List D).length + dd.length) + 1 = ps.length then g (d :: ([] ++ dd)) S0 else .bad) = _
    rw [if_pos hn]
  rw [ez]
  exact PySem.W.callWith_K0 (first := [.ref a]) I0.kIn hm.kp (thn (run_fnL (us := [.ref a]) (vs := [.ref a]) (ds := [d]) Fn hr hb hd.vals (hd.rel _ _) I0 x0 (.cons rfl .nil) (.cons w0 .nil)
    (by rw [List.length_append, (hd.rel m0 H0).length]; simp at hn ⊢; omega) hp1) fun _ _ z => z.left e0)
end

/-! ### what nobody can reach any more is let go -/
mutual
def below (n : Nat) : D → Bool
  | .ref i => decide (i < n)
  | .tup xs => belows n xs
  | .ftup xs => belows n xs
  | .lst xs => belows n xs
  | .dct _ kvs => belowd n kvs
  | .obj _ fs => belowf n fs
  | .exn _ fs => belowf n fs
  | _ => true
def belows (n : Nat) : List D → Bool
  | [] => true
  | x :: xs => below n x && belows n xs
def belowd (n : Nat) : List (D × D) → Bool
  | [] => true
  | (_, x) :: xs => below n x && belowd n xs
def belowf (n : Nat) : List (Str × D) → Bool
  | [] => true
  | (_, x) :: xs => below n x && belowf n xs
end
def belowo (n : Nat) : O → Bool
  | .lst xs => belows n xs
  | .dct _ kvs => belowd n kvs
  | .ins _ fs => belowf n fs
section
variable {K : PySem.W.Frag} {m : List Addr} {H : Hp}
mutual
theorem VR.bel {v : V} {d : D} : VR K m H v d → below m.length d = true
  | .non => rfl
  | .bl _ => rfl
  | .int _ => rfl
  | .str _ => rfl
  | .tup _ r => r.bel
  | .ftup _ _ r => r.bel
  | .lst _ _ r => r.bel
  | .lstK _ _ _ _ _ _ r => r.bel
  | .dct _ _ r => r.bel
  | .dctT _ _ r => r.bel
  | .obj _ _ r => r.bel
  | .exn0 _ _ => rfl
  | .exnD _ _ _ _ r => r.bel
  | .ref h => by
    simp only [MP.below]
    exact decide_eq_true (List.getElem?_eq_some_iff.mp h).1
theorem VRs.bel {v : List V} {d : List D} : VRs K m H v d → belows m.length d = true
  | .nil => rfl
  | .cons h r => by simp only [MP.belows, h.bel, r.bel, Bool.and_self]
theorem VFs.bel {v : List (Str × V)} {d : List (Str × D)} : VFs K m H v d → belowf m.length d = true
  | .nil => rfl
  | .cons h r => by simp only [MP.belowf, h.bel, r.bel, Bool.and_self]
theorem VDk.bel {v : List (Key × V)} {d : List (D × D)} : VDk K m H v d → belowd m.length d = true
  | .nil => rfl
  | .cons h r => by simp only [MP.belowd, h.bel, r.bel, Bool.and_self]
theorem VDt.bel {v : List (List Key × V)} {d : List (D × D)} : VDt K m H v d → belowd m.length d = true
  | .nil => rfl
  | .cons h r => by simp only [MP.belowd, h.bel, r.bel, Bool.and_self]
end
variable {l : List Addr}
theorem nin_left {a : Addr} (h : a ∉ m ++ l) : a ∉ m := fun z => h (List.mem_append_left _ z)
mutual
theorem VR.down {v : V} {d : D} : VR K (m ++ l) H v d → MP.below m.length d = true → VR K m H v d
  | .non, _ => .non
  | .bl b, _ => .bl b
  | .int i, _ => .int i
  | .str s, _ => .str s
  | .tup h r, q => .tup h (r.down (by simpa only [MP.below] using q))
  | .ftup hd h r, q => .ftup hd h (r.down (by simpa only [MP.below] using q))
  | .lst n h r, q => .lst (nin_left n) h (r.down (by simpa only [MP.below] using q))
  | .lstK hk h1 h2 h3 h4 h5 r, q => .lstK hk h1 h2 h3 h4 h5 (r.down (by simpa only [MP.below] using q))
  | .dct n h r, q => .dct (nin_left n) h (r.down (by simpa only [MP.below] using q))
  | .dctT n h r, q => .dctT (nin_left n) h (r.down (by simpa only [MP.below] using q))
  | .obj n h r, q => .obj (nin_left n) h (r.down (by simpa only [MP.below] using q))
  | .exn0 n h, q => .exn0 (nin_left n) h
  | .exnD n nd h hd r, q => .exnD (nin_left n) (nin_left nd) h hd (r.down (by simpa only [MP.below] using q))
  | .ref h, q => .ref (by
    simp only [MP.below] at q
    rw [List.getElem?_append_left (of_decide_eq_true q)] at h
    exact h)
theorem VRs.down {v : List V} {d : List D} : VRs K (m ++ l) H v d → MP.belows m.length d = true → VRs K m H v d
  | .nil, _ => .nil
  | .cons h r, q => by
    simp only [MP.belows, Bool.and_eq_true] at q
    exact .cons (h.down q.1) (r.down q.2)
theorem VFs.down {v : List (Str × V)} {d : List (Str × D)} : VFs K (m ++ l) H v d → MP.belowf m.length d = true → VFs K m H v d
  | .nil, _ => .nil
  | .cons h r, q => by
    simp only [MP.belowf, Bool.and_eq_true] at q
    exact .cons (h.down q.1) (r.down q.2)
theorem VDk.down {v : List (Key × V)} {d : List (D × D)} : VDk K (m ++ l) H v d → MP.belowd m.length d = true → VDk K m H v d
  | .nil, _ => .nil
  | .cons h r, q => by
    simp only [MP.belowd, Bool.and_eq_true] at q
    exact .cons (h.down q.1) (r.down q.2)
theorem VDt.down {v : List (List Key × V)} {d : List (D × D)} : VDt K (m ++ l) H v d → MP.belowd m.length d = true → VDt K m H v d
  | .nil, _ => .nil
  | .cons h r, q => by
    simp only [MP.belowd, Bool.and_eq_true] at q
    exact .cons (h.down q.1) (r.down q.2)
end
/-- a place of the store from n on, as what stands there -/
def fz0 (S : Sto) (n : Nat) (d : D) : D := match d with
  | .ref i => if i < n then .ref i else vw S (.ref i)
  | d => d
def fz (S : Sto) (n : Nat) (d : D) : D := match fz0 S n d with
  | .obj C fs => .obj C (fs.map fun q => (q.1, fz0 S n q.2))
  | d => d
theorem nodup_get {xs : List Addr} (h : xs.Nodup) {i j : Nat} {a : Addr} (h1 : xs[i]? = some a) (h2 : xs[j]? = some a) : i = j := by
  obtain ⟨p1, e1⟩ := List.getElem?_eq_some_iff.mp h1
  obtain ⟨p2, e2⟩ := List.getElem?_eq_some_iff.mp h2
  exact (List.getElem_inj h).mp (e1.trans e2.symm)
theorem VR.fz0 {S : Sto} {v : V} {d : D} (x : SR K (m ++ l) H S) (r : VR K (m ++ l) H v d) : ∃ v', v' = v ∧ (VR K (m ++ l) H v (MP.fz0 S m.length d) ∨ (∃ a, v = .ref a ∧ a ∉ m ∧ ∃ ob, OR K (m ++ l) H a ob ∧ MP.fz0 S m.length d = (match ob with
  | .lst xs => .lst xs
  | .dct t kvs => .dct t kvs
  | .ins C fs => .obj C fs))) := by
  refine ⟨v, rfl, ?_⟩
  cases r with
  | @ref i a h =>
    unfold MP.fz0
    by_cases hi : i < m.length
    · dsimp only
      rw [if_pos hi]
      exact .inl (.ref h)
    · dsimp only
      rw [if_neg hi]
      cases q : S[i]? with
      | none =>
        have := (List.getElem?_eq_some_iff.mp h).1
        rw [x.len] at this
        rw [List.getElem?_eq_none_iff] at q
        omega
      | some ob =>
        refine .inr ⟨a, rfl, fun z => ?_, ob, x.at_ i a ob h q, by dsimp only [vw]; rw [q]; cases ob <;> rfl⟩
        obtain ⟨j, hj⟩ := List.mem_iff_getElem?.mp z
        have hj' := (List.getElem?_eq_some_iff.mp hj).1
        have h2 : (m ++ l)[j]? = some a := by rw [List.getElem?_append_left hj']; exact hj
        have := nodup_get x.nd h2 h
        omega
  | non => exact .inl .non
  | bl b => exact .inl (.bl b)
  | int b => exact .inl (.int b)
  | str b => exact .inl (.str b)
  | tup h r => exact .inl (.tup h r)
  | ftup hd h r => exact .inl (.ftup hd h r)
  | lst n h r => exact .inl (.lst n h r)
  | lstK hk h1 h2 h3 h4 h5 r => exact .inl (.lstK hk h1 h2 h3 h4 h5 r)
  | dct n h r => exact .inl (.dct n h r)
  | dctT n h r => exact .inl (.dctT n h r)
  | obj n h r => exact .inl (.obj n h r)
  | exn0 n h => exact .inl (.exn0 n h)
  | exnD n nd h hd r => exact .inl (.exnD n nd h hd r)
end
end MP

namespace MP
open PySem PySem.Spec PyProof.Rows L2

section
variable {K : PySem.W.Frag} {m l : List Addr} {H H' : Hp} {S S' : Sto}
theorem OR.bel {a : Addr} {o : O} (h : OR K m H a o) : belowo m.length o = true := by
  cases h with
  | lst _ r => exact r.bel
  | dct _ r => exact r.bel
  | dctT _ r => exact r.bel
  | ins _ r => exact r.bel
theorem OR.down {a : Addr} {o : O} (h : OR K (m ++ l) H a o) (b : belowo m.length o = true) : OR K m H a o := by
  cases h with
  | lst h r => exact .lst h (r.down b)
  | dct h r => exact .dct h (r.down b)
  | dctT h r => exact .dctT h (r.down b)
  | ins h r => exact .ins h (r.down b)
def snap : O → D
  | .lst xs => .lst xs
  | .dct t kvs => .dct t kvs
  | .ins C fs => .obj C fs
theorem VR.fz0_down {v : V} {d : D} (x : SR K (m ++ l) H S) (r : VR K (m ++ l) H v d) (b : MP.below m.length (MP.fz0 S m.length d) = true) : VR K m H v (MP.fz0 S m.length d) := by
  obtain ⟨_, rfl, q⟩ := VR.fz0 x r
  rcases q with q | ⟨a, rfl, na, ob, q, e⟩
  · exact q.down b
  · rw [e] at b ⊢
    cases q with
    | lst h r => exact .lst na (.inl h) (r.down (by simpa only [MP.below] using b))
    | dct h r => exact .dct na h (r.down (by simpa only [MP.below] using b))
    | dctT h r => exact .dctT na h (r.down (by simpa only [MP.below] using b))
    | ins h r => exact .obj na h (r.down (by simpa only [MP.below] using b))
theorem VFs.fz0_down (x : SR K (m ++ l) H S) : ∀ {vs : List (Str × V)} {ds : List (Str × D)}, VFs K (m ++ l) H vs ds → belowf m.length (ds.map fun q => (q.1, MP.fz0 S m.length q.2)) = true → VFs K m H vs (ds.map fun q => (q.1, MP.fz0 S m.length q.2))
  | _, _, .nil, _ => .nil
  | _, _, .cons h r, q => by
    simp only [List.map_cons, belowf, Bool.and_eq_true] at q
    exact .cons (h.fz0_down x q.1) (VFs.fz0_down x r q.2)
theorem VR.fz_down {v : V} {d : D} (x : SR K (m ++ l) H S) (r : VR K (m ++ l) H v d) (b : MP.below m.length (fz S m.length d) = true) : VR K m H v (fz S m.length d) := by
  unfold fz at b ⊢
  split at b
  · rename_i C fs e
    obtain ⟨_, rfl, q⟩ := VR.fz0 x r
    simp only [MP.below] at b
    rcases q with q | ⟨a, rfl, na, ob, q, e2⟩
    · rw [e] at q
      cases q with
      | obj n h r => exact .obj (nin_left n) h (VFs.fz0_down x r b)
    · rw [e2] at e
      cases q with
      | ins h r => cases e; exact .obj na h (VFs.fz0_down x r b)
      | lst _ _ => cases e
      | dct _ _ => cases e
      | dctT _ _ => cases e
  · exact r.fz0_down x b
/-- a weaker result: less is told, or what nobody reaches any more is let go -/
inductive RLe (S : Sto) : R D → R D → Prop where
  | bad (r : R D) : RLe S .bad r
  | refl (r : R D) : RLe S r r
  | gc (d d' : D) (S' : Sto) (h : S'.take S.length = S) (e : d' = fz S' S.length d) (b : below S.length d' = true) : RLe S (.ok d' S) (.ok d S')
  | gcx (C : Addr) (fs : List (Str × D)) (S' : Sto) (h : S'.take S.length = S) (b : belowf S.length fs = true) : RLe S (.exc C fs S) (.exc C fs S')
theorem sr_gc {m' : List Addr} (x : SR K m H S) (e : Ext m H m' H') (x' : SR K m' H' S') (h : S'.take S.length = S) : SR K m H' S ∧ Ext m H m H' := by
  obtain ⟨l, el⟩ := e.pre
  subst el
  refine ⟨⟨x.nd, x.len, fun i a o h1 h2 => ?_⟩, ⟨[], by simp⟩, fun a h => .inl h, e.keep⟩
  have hi := (List.getElem?_eq_some_iff.mp h1).1
  have hs := (List.getElem?_eq_some_iff.mp h2).1
  refine (x'.at_ i a o (by rw [List.getElem?_append_left hi]; exact h1) ?_).down (x.at_ i a o h1 h2).bel
  rw [← h, List.getElem?_take] at h2
  rw [if_pos hs] at h2
  exact h2
theorem qv_gc {d : D} {v : V} (x : SR K m H S) (q : QV K m H S' d v H') (h : S'.take S.length = S) (b : below S.length (fz S' S.length d) = true) : QV K m H S (fz S' S.length d) v H' := by
  obtain ⟨m', e, x', w⟩ := q
  obtain ⟨y1, y2⟩ := sr_gc x e x' h
  obtain ⟨l, el⟩ := e.pre
  subst el
  rw [← x.len] at b ⊢
  exact ⟨m, y2, y1, w.fz_down x' b⟩
theorem wl_gc {C : Addr} {fs : List (Str × D)} {cls : Value} {dd : Option Addr} (x : SR K m H S) (q : WL K m H C fs S' cls dd H') (h : S'.take S.length = S) (b : belowf S.length fs = true) : WL K m H C fs S cls dd H' := by
  obtain ⟨h1, a, vs, m', h2, h3, e, x', w⟩ := q
  obtain ⟨y1, y2⟩ := sr_gc x e x' h
  obtain ⟨l, el⟩ := e.pre
  subst el
  rw [← x.len] at b
  exact ⟨h1, a, vs, m, h2, h3, y2, y1, w.down b⟩
end
theorem FnL.le {P : Program} {w : World} {K : PySem.W.Frag} {mg : Str → Option Value} {base : Heap} {k : Nat} {f : Addr} {fd : FuncData} {ps : List Str} {g g' : F} (h : FnL P w K mg base k f fd ps g) (hle : ∀ ds S, ds.length = ps.length → RLe S (g' ds S) (g ds S)) : FnL P w K mg base k f fd ps g' := by
  refine FnOk.imp h fun vs H Q E ⟨hl, m, S, ds, x, r, nb, q1, q2⟩ => ⟨hl, m, S, ds, x, r, ?_⟩
  have z := hle ds S (by rw [← r.length]; exact hl)
  generalize hA : g' ds S = A at z nb q1 q2
  generalize hB : g ds S = B at z
  cases z with
  | bad r => exact absurd rfl nb
  | refl r => exact ⟨nb, q1, q2⟩
  | gc d d' S' h e b =>
    subst e
    refine ⟨fun z => (nomatch z), fun d1 S1 e v H' qv => ?_, fun C fs S1 e => (nomatch e)⟩
    cases e
    exact q1 _ _ rfl v H' (qv_gc x qv h b)
  | gcx C fs S' h b =>
    refine ⟨fun z => (nomatch z), fun d1 S1 e => (nomatch e), fun C1 fs1 S1 e cls dd H' wl => ?_⟩
    cases e
    exact q2 _ _ _ rfl cls dd H' (wl_gc x wl h b)

/-! ### a new object -/
section
variable {X : Cx} {e : Expr} {pos p : Pos} {es : List Expr} {t : LA} {x : Str} {k : Nat} {f C : Addr} {fd : FuncData} {ps : List Str} {g : F}
/-- what comes of C(..) by its __init__ -/
def mkF (C : Addr) (g : F) : F := fun ds S => (g (.ref S.length :: ds) (S ++ [.ins C []])).bind fun d S1 => match d with
  | .non => .ok (.ref S.length) S1
  | _ => .bad
theorem run_makeL {pins : List (Addr × Obj)} {σ : L2.St} {H : Hp} {s : Shared} {us ds0 : List Value} {vs dvs : List V} {m : List Addr} {S : Sto} {ds dd : List D} {gn : F} (M : Mk X.K C f) (Fn : FnL X.prog X.w X.K X.mg X.base k f fd ps g) (hr : Room (k + 1) X.A) (hb : Binds X.K fd ps ds0) (hd : Vals dvs ds0) (hdd : VRs X.K m H dvs dd)
    (I : Inv X pins σ H s) (x : SR X.K m H S) (r : Vals vs us) (rd : VRs X.K m H vs ds) (hl : (vs ++ dvs).length + 1 = ps.length) (hg : RLe S (gn (ds ++ dd) S) (mkF C g (ds ++ dd) S)) (hp : Hope X σ m H (gn (ds ++ dd) S)) :
    wpAny (model X.prog X.w) X.A (call (.ref C) us) (VPr X pins σ m H (gn (ds ++ dd) S)) X.xe s := by
  -- the instance stands at pa, its dict at pd
  obtain ⟨pd, hpd⟩ : ∃ a, a = s.heap.objs.size := ⟨_, rfl⟩
  obtain ⟨pa, hpa⟩ : ∃ a, a = s.heap.objs.size + 1 := ⟨_, rfl⟩
  have n1 : H pa = none := hpa ▸ I.hok.fresh (Nat.le_succ _)
  have n2 : H pd = none := hpd ▸ I.hok.fresh (Nat.le_refl _)
  have ne : pa ≠ pd := by omega
  have I2 := Inv.made (C := C) I
  rw [← hpa, ← hpd] at I2
  have r2 : Vals (V.ref pa :: (vs ++ dvs)) (Value.ref pa :: (us ++ ds0)) := .cons rfl (r.append hd)
  have n1' : (upd H pd (.own pa)) pa = none := by rw [upd_ne ne]; exact n1
  have x1 : SR X.K m (upd H pd (.own pa)) S := x.fresh n2
  have E1 : Ext m H m (upd H pd (.own pa)) := Ext.fresh n2
  obtain ⟨E2, x2⟩ := x1.snoc (o := .ins C pd []) (ob := .ins C []) n1' fun m' H' _ q => .ins q .nil
  have E3 := E1.trans E2
  have rd2 : VRs X.K (m ++ [pa]) (upd (upd H pd (.own pa)) pa (.ins C pd [])) (V.ref pa :: (vs ++ dvs)) (D.ref S.length :: (ds ++ dd)) := .cons (.ref (by rw [← x.len]; simp)) ((rd.append hdd).ext E3 x.muts)
  have nb : mkF C g (ds ++ dd) S ≠ .bad := fun z => by
    rw [z] at hg
    generalize gn (ds ++ dd) S = A at hg hp
    cases hg with
    | bad => exact hp.1 rfl
    | refl => exact hp.1 rfl
  have hsp : spL X.K g ps.length (V.ref pa :: (vs ++ dvs)) (upd (upd H pd (.own pa)) pa (.ins C pd [])) (fun v H' => ∃ d S', g (.ref S.length :: (ds ++ dd)) (S ++ [.ins C []]) = .ok d S' ∧ QV X.K (m ++ [pa]) (upd (upd H pd (.own pa)) pa (.ins C pd [])) S' d v H')
      (fun cls d H' => ∃ C' fs S', g (.ref S.length :: (ds ++ dd)) (S ++ [.ins C []]) = .exc C' fs S' ∧ WL X.K (m ++ [pa]) (upd (upd H pd (.own pa)) pa (.ins C pd [])) C' fs S' cls d H') :=
    ⟨by rw [List.length_cons]; exact hl, _, _, _, x2, rd2, fun z => nb (by unfold mkF; rw [z]; rfl), fun d S' q v H' z => ⟨d, S', q, z⟩, fun C' fs S' q cls d H' z => ⟨C', fs, S', q, z⟩⟩
  have hl2 : (Value.ref pa :: us ++ ds0).length = ps.length := by rw [List.cons_append, ← r2.length, List.length_cons]; exact hl
  refine wpAny_call (make_map (f := f) I.kIn M.makes M.init (beq_iff_eq.mp M.fn) ?_)
  rw [← hpa, ← hpd]
  refine codeAny_mono (Fn.run _ X.stack _ _ ⟨Value.ref pa :: us, []⟩ (Value.ref pa :: (us ++ ds0)) _ _ _ (hr.make C us []) (I2.env0.make C us []) (hb _ (Value.ref pa :: us) I2.kIn hl2) r2 hsp) fun r s' hq => ?_
  cases r with
  | error e =>
    obtain ⟨C', fs, S', q, w0⟩ : ∃ C' fs S', g (.ref S.length :: (ds ++ dd)) (S ++ [.ins C []]) = .exc C' fs S' ∧ XE X (fun cls d σ' H' => σ' = σ ∧ WL X.K m H C' fs S' cls d H') e s' := by
      have hx := XE.of_call (W := fun cls d σ' H' => σ' = σ ∧ ∃ C' fs S', g (.ref S.length :: (ds ++ dd)) (S ++ [.ins C []]) = .exc C' fs S' ∧ WL X.K m H C' fs S' cls d H') I2 (fun cls d H' w => by
        obtain ⟨C', fs, S', q, w⟩ := w
        exact ⟨rfl, C', fs, S', q, w.ext E3⟩) hq
      obtain ⟨_, _, _, _, _, _, _, _, _, _, _, _, _, _, _, _, _, C', fs, S', q, _⟩ := id hx
      refine ⟨C', fs, S', q, XE.imp hx fun cls d σ' H' w => ?_⟩
      obtain ⟨w1, C2, fs2, S2, q2, w2⟩ := w
      rw [q] at q2
      cases q2
      exact ⟨w1, w2⟩
    have e0 : mkF C g (ds ++ dd) S = .exc C' fs S' := by unfold mkF; rw [q]; rfl
    rw [e0] at hg
    generalize hA : gn (ds ++ dd) S = A at hg hp
    cases hg with
    | bad => exact absurd rfl hp.1
    | refl => exact hp.2 _ _ _ rfl e s' w0
    | gcx _ _ _ h b => exact hp.2 _ _ _ rfl e s' (XE.imp w0 fun cls d σ' H' w => ⟨w.1, wl_gc x w.2 h b⟩)
  | ok fl =>
    cases fl with
    | ret u =>
      obtain ⟨v, H', I3, rv, d, S', q, m', e', x', w'⟩ := I2.after hq
      have hn : d = .non := by
        cases d with
        | non => rfl
        | _ => exact absurd (by unfold mkF; rw [q]; rfl) nb
      subst hn
      cases w'
      obtain rfl : u = Value.none := rv
      have e0 : mkF C g (ds ++ dd) S = .ok (.ref S.length) S' := by unfold mkF; rw [q]; rfl
      have qv : QV X.K m H S' (.ref S.length) (.ref pa) H' := ⟨m', E3.trans e', x', .ref (e'.get (by rw [← x.len]; simp))⟩
      refine ⟨rfl, ?_⟩
      rw [e0] at hg
      generalize hA : gn (ds ++ dd) S = A at hg hp
      cases hg with
      | bad => exact absurd rfl hp.1
      | refl =>
        obtain ⟨m2, z1, z2, z3⟩ := qv
        exact ⟨_, _, rfl, .ref pa, H', m2, I3, rfl, z1, z2, z3⟩
      | gc _ _ _ h e b =>
        subst e
        obtain ⟨m2, z1, z2, z3⟩ := qv_gc x qv h b
        exact ⟨_, _, rfl, .ref pa, H', m2, I3, rfl, z1, z2, z3⟩
    | next => exact False.elim hq
    | brk => exact False.elim hq
    | cont => exact False.elim hq
theorem pel_make {n : Nat} {ds0 : List Value} {dvs : List V} {dd : List D} {gn : F} (M : Mk X.K C f) (Fn : FnL X.prog X.w X.K X.mg X.base k f fd ps g) (hle : ∀ ds S, RLe S (gn ds S) (mkF C g ds S)) (hr : Room (k + 1) X.A) (hg : Gl X x) (hm : X.mg x = some (.ref C)) (hb : Binds X.K fd ps ds0) (hd : Dfl X.K dvs ds0 dd)
    (ha : PAL X (e :: es) t) (hdb : (x == ("__debug__" : Str)) = false := by decide) (he : starEach (e :: es) X.env = (false, eval e X.env) :: starEach es X.env := by rfl) (hpl : (backTo pos (starEach es X.env)).any (·.1) = false := by rfl) (hps : ps.length = n + 1 := by rfl) :
    PEL X (.Call (.Name x p) (e :: es) [] pos) (lCall n gn dd t) := by
  refine ⟨fun pins s σ H m ρ S I x r hp => ?_⟩
  refine wpAny_Call_Name_kw (ld_glob I hg hm ?_ hdb)
  refine PySem.W.callWith_K (h₀ := X.base) I.ok.mod.kin M.kp (run_seqA ha I x r hp fun ds S1 q1 vs us s1 H1 m1 I1 rv e1 x1 w1 r1 hp1 => ⟨I1.kIn, ?_⟩) he hpl
  have hl := hope_if hp1
  rw [if_pos hl] at hp1
  have e0 : lCall n gn dd t ρ S = gn (ds ++ dd) S1 := by unfold lCall; rw [q1, bind_ok, if_pos hl]
  rw [e0]
  exact thn (run_makeL M Fn hr hb hd.vals (hd.rel _ _) I1 x1 rv w1 (by rw [List.length_append, w1.length, (hd.rel m1 H1).length]; omega) (hle _ _) hp1) fun _ _ z => z.left e1
end
end MP

namespace MP
open PySem PySem.Spec PyProof.Rows L2

/-! ### readings of the layer beneath -/
/-- no exception -/
def tL0 (K : PySem.W.Frag) (l : LE) : TE := fun σ H Q => ∃ m ρ S, SR K m H S ∧ ER K m H σ ρ ∧ ∃ d S', l ρ S = .ok d S' ∧ ∀ v H', QV K m H S' d v H' → Q v H'
def tT0 (K : PySem.W.Frag) (l : LT) : TT := fun σ H Q => ∃ m ρ S, SR K m H S ∧ ER K m H σ ρ ∧ ∃ b S', l ρ S = .ok b S' ∧ ∀ H' m', Ext m H m' H' → SR K m' H' S' → Q b H'
theorem PEL.pe {X : Cx} {e : Expr} {l : LE} (h : PEL X e l) : PE X e (tL0 X.K l) := by
  refine ⟨fun pins s σ H Q I ⟨m, ρ, S, x, r, d, S', q, k⟩ => ?_⟩
  have z := h.run pins s σ H m ρ S I x r (by rw [q]; exact Hope.ok)
  rw [q] at z
  refine thn z fun u s' ⟨d', S2, e, v, H', m', I', rv, e', x', w⟩ => ?_
  cases e
  exact ⟨v, H', I', rv, k v H' ⟨m', e', x', w⟩⟩
theorem PTL.pt {X : Cx} {e : Expr} {l : LT} (h : PTL X e l) : PT X e (tT0 X.K l) := by
  refine ⟨fun pins s σ H Q I ⟨m, ρ, S, x, r, d, S', q, k⟩ => ?_⟩
  have z := h.run pins s σ H m ρ S I x r (by rw [q]; exact Hope.ok)
  rw [q] at z
  refine thn z fun u s' ⟨S2, H', m', e, I', e', x'⟩ => ?_
  cases e
  exact ⟨H', I', k H' m' e' x'⟩
theorem PEL.of_pe {X : Cx} {e : Expr} {l : LE} {t : TE} (h : PE X e t) (ht : ∀ σ H m ρ S, SR X.K m H S → ER X.K m H σ ρ → Hope X σ m H (l ρ S) → t σ H (fun v H' => ∃ d S', l ρ S = .ok d S' ∧ QV X.K m H S' d v H')) : PEL X e l :=
  ⟨fun pins s σ H m ρ S I x r hp => thn (h.run pins s σ H _ I (ht σ H m ρ S x r hp)) fun u s' ⟨v, H', I', rv, d, S', q, m', e, x', w⟩ => ⟨d, S', q, v, H', m', I', rv, e, x', w⟩⟩

/-! ### statements -/
inductive Fl where
  | nx (ρ : Ev) | rt (d : D) | bk (ρ : Ev) | ct (ρ : Ev) | ex (C : Addr) (fs : List (Str × D)) (ρ : Ev)
abbrev LS := Ev → Sto → R Fl
/-- behind: slots and heap by the store -/
def SV (K : PySem.W.Frag) (m : List Addr) (H : Hp) (ρ' : Ev) (S' : Sto) (σ' : L2.St) (H' : Hp) : Prop := ∃ m', Ext m H m' H' ∧ SR K m' H' S' ∧ ER K m' H' σ' ρ' ∧ ρ'.length = σ'.length
def WS (K : PySem.W.Frag) (m : List Addr) (H : Hp) (C : Addr) (fs : List (Str × D)) (ρ' : Ev) (S' : Sto) : WX := fun cls d σ' H' =>
  cls = .ref C ∧ ∃ (dd : Addr) (vs : List (Str × V)) (m' : List Addr), d = some dd ∧ H' dd = some (.xd vs) ∧ Ext m H m' H' ∧ SR K m' H' S' ∧ VFs K m' H' vs fs ∧ ER K m' H' σ' ρ' ∧ ρ'.length = σ'.length
/-- the reading: what is wanted at each of the ways out -/
structure HS (X : Cx) (D : Ends) (m : List Addr) (H : Hp) (r : R Fl) : Prop where
  ok : ∃ fl S', r = .ok fl S'
  nx : ∀ ρ' S', r = .ok (.nx ρ') S' → ∀ σ' H', SV X.K m H ρ' S' σ' H' → D.nx σ' H'
  rt : ∀ d S', r = .ok (.rt d) S' → ∀ v H', QV X.K m H S' d v H' → D.rt v H'
  bk : ∀ ρ' S', r = .ok (.bk ρ') S' → ∀ σ' H', SV X.K m H ρ' S' σ' H' → D.bk σ' H'
  ct : ∀ ρ' S', r = .ok (.ct ρ') S' → ∀ σ' H', SV X.K m H ρ' S' σ' H' → D.ct σ' H'
  ex : ∀ C fs ρ' S', r = .ok (.ex C fs ρ') S' → ∀ u s', XE X (WS X.K m H C fs ρ' S') u s' → X.xe u s'
def tSL (X : Cx) (l : LS) : TS := fun D σ H => ∃ m ρ S, SR X.K m H S ∧ ER X.K m H σ ρ ∧ ρ.length = σ.length ∧ HS X D m H (l ρ S)
def PSL (X : Cx) (st : Stmt) (l : LS) : Prop := PS X st (tSL X l)
def PSsL (X : Cx) (st : List Stmt) (l : LS) : Prop := PSs X st (tSL X l)
section
variable {X : Cx} {D : Ends} {m m1 : List Addr} {H H1 : Hp} {r : R Fl} {σ : L2.St} {ρ : Ev} {S S1 : Sto}
theorem SV.left {K : PySem.W.Frag} {ρ' : Ev} {S' : Sto} {σ' : L2.St} {H' : Hp} (e : Ext m H m1 H1) (h : SV K m1 H1 ρ' S' σ' H') : SV K m H ρ' S' σ' H' := by
  obtain ⟨m', e', a, b, c⟩ := h
  exact ⟨m', e.trans e', a, b, c⟩
theorem QV.left {K : PySem.W.Frag} {d : MP.D} {S' : Sto} {v : V} {H' : Hp} (e : Ext m H m1 H1) (h : QV K m1 H1 S' d v H') : QV K m H S' d v H' := by
  obtain ⟨m', e', a, b⟩ := h
  exact ⟨m', e.trans e', a, b⟩
theorem WS.left {K : PySem.W.Frag} {C : Addr} {fs : List (Str × MP.D)} {ρ' : Ev} {S' : Sto} {cls : Value} {d : Option Addr} {σ' : L2.St} {H' : Hp} (e : Ext m H m1 H1) (h : WS K m1 H1 C fs ρ' S' cls d σ' H') : WS K m H C fs ρ' S' cls d σ' H' := by
  obtain ⟨h1, dd, vs, m', h2, h3, h4, h5⟩ := h
  exact ⟨h1, dd, vs, m', h2, h3, e.trans h4, h5⟩
theorem HS.ext (h : HS X D m H r) (e : Ext m H m1 H1) : HS X D m1 H1 r :=
  ⟨h.ok, fun ρ' S' q σ' H' z => h.nx ρ' S' q σ' H' (z.left e), fun d S' q v H' z => h.rt d S' q v H' (z.left e), fun ρ' S' q σ' H' z => h.bk ρ' S' q σ' H' (z.left e), fun ρ' S' q σ' H' z => h.ct ρ' S' q σ' H' (z.left e),
    fun C fs ρ' S' q u s' z => h.ex C fs ρ' S' q u s' (XE.imp z fun _ _ _ _ w => w.left e)⟩
/-- an exception of an expression is one of the statement -/
def liftX {α : Type} (ρ : Ev) (r : R α) (f : α → Sto → R Fl) : R Fl := match r with
  | .ok a S => f a S
  | .exc C fs S => .ok (.ex C fs ρ) S
  | .bad => .bad
theorem HS.hope {α : Type} {r : R α} {f : α → Sto → R Fl} (h : HS X D m H (liftX ρ r f)) (er : ER X.K m H σ ρ) (hl : ρ.length = σ.length) (x : SR X.K m H S) : Hope X σ m H r := by
  cases r with
  | bad => obtain ⟨fl, S', q⟩ := h.ok; cases q
  | ok a S => exact Hope.ok
  | exc C fs S' =>
    refine ⟨fun z => (nomatch z), fun C' fs' S'' q u s' z => ?_⟩
    cases q
    refine h.ex C fs ρ S' rfl u s' (XE.imp z fun cls d σ' H' w => ?_)
    obtain ⟨w0, w1, dd, vs, m', w2, w3, w4, w5, w6⟩ := w
    subst w0
    exact ⟨w1, dd, vs, m', w2, w3, w4, w5, w6, er.ext w4 x.muts, hl⟩
/-- an expression in a statement: what is told of it -/
theorem expr_in {e : Expr} {l : LE} (h : PEL X e l) {pins : List (Addr × Obj)} {s : Shared} (I : Inv X pins σ H s) (x : SR X.K m H S) (er : ER X.K m H σ ρ) (hl : ρ.length = σ.length) {f : MP.D → Sto → R Fl} (hs : HS X D m H (liftX ρ (l ρ S) f)) {Q : Value → Shared → Prop}
    (k : ∀ d S1, l ρ S = .ok d S1 → ∀ v u s1 H1 m1, Inv X pins σ H1 s1 → RelV v u → Ext m H m1 H1 → SR X.K m1 H1 S1 → VR X.K m1 H1 v d → ER X.K m1 H1 σ ρ → HS X D m1 H1 (f d S1) → Q u s1) :
    wpAny (model X.prog X.w) X.A (eval e X.env) Q X.xe s := by
  refine thn (h.run pins s σ H m ρ S I x er (hs.hope er hl x)) fun u s1 ⟨d, S1, q, v, H1, m1, I1, rv, e1, x1, w⟩ => ?_
  rw [q] at hs
  exact k d S1 q v u s1 H1 m1 I1 rv e1 x1 w (er.ext e1 x.muts) (HS.ext hs e1)
theorem test_in {e : Expr} {l : LT} (h : PTL X e l) {pins : List (Addr × Obj)} {s : Shared} (I : Inv X pins σ H s) (x : SR X.K m H S) (er : ER X.K m H σ ρ) (hl : ρ.length = σ.length) {f : Bool → Sto → R Fl} (hs : HS X D m H (liftX ρ (l ρ S) f)) {Q : Bool → Shared → Prop}
    (k : ∀ b S1, l ρ S = .ok b S1 → ∀ s1 H1 m1, Inv X pins σ H1 s1 → Ext m H m1 H1 → SR X.K m1 H1 S1 → ER X.K m1 H1 σ ρ → HS X D m1 H1 (f b S1) → Q b s1) :
    wpAny (model X.prog X.w) X.A (isTrue e X.env (eval e X.env)) Q X.xe s := by
  refine thn (h.run pins s σ H m ρ S I x er (hs.hope er hl x)) fun u s1 ⟨S1, H1, m1, q, I1, e1, x1⟩ => ?_
  rw [q] at hs
  exact k u S1 q s1 H1 m1 I1 e1 x1 (er.ext e1 x.muts) (HS.ext hs e1)
theorem sv_same (x : SR X.K m H S) (er : ER X.K m H σ ρ) (hl : ρ.length = σ.length) : SV X.K m H ρ S σ H := ⟨m, Ext.refl, x, er, hl⟩
end

section
variable {X : Cx} {st : Stmt} {rest : List Stmt} {l l' l1 l2 : LS} {e o i c : Expr} {le lo li : LE} {tc : LT} {pos pos' : Pos} {x : Str}
def lNext : LS := fun ρ S => .ok (.nx ρ) S
def Fl.go (l2 : LS) (fl : Fl) (S1 : Sto) : R Fl := match fl with
  | .nx ρ1 => l2 ρ1 S1
  | fl => .ok fl S1
def lSeq (l1 l2 : LS) : LS := fun ρ S => (l1 ρ S).bind (Fl.go l2)
theorem pss_imp {sts : List Stmt} {t u : TS} (h : PSs X sts t) (k : ∀ D σ H, u D σ H → t D σ H) : PSs X sts u := ⟨fun pins s σ H D I q => h.run pins s σ H D I (k D σ H q)⟩
theorem ps_imp {st : Stmt} {t u : TS} (h : PS X st t) (k : ∀ D σ H, u D σ H → t D σ H) : PS X st u := ⟨fun pins s σ H D I q => h.run pins s σ H D I (k D σ H q)⟩
theorem pssl_nil : PSsL X [] lNext := pss_imp pss_nil fun D σ H ⟨m, ρ, S, x, er, hl, h⟩ => h.nx ρ S rfl σ H (sv_same x er hl)
theorem pssl_one (h : PSL X st l) : PSsL X [st] l := pss_one h
theorem bind_nbad {α β : Type} {r : R α} {f : α → Sto → R β} {b : β} {S' : Sto} (h : r.bind f = .ok b S') : ∃ a S, r = .ok a S ∧ f a S = .ok b S' := by
  cases r with
  | ok a S => exact ⟨a, S, rfl, h⟩
  | exc _ _ _ => cases h
  | bad => cases h
theorem HS.seq {D : Ends} {m : List Addr} {H : Hp} {ρ : Ev} {S : Sto} (h : HS X D m H (lSeq l1 l2 ρ S)) : HS X { D with nx := fun σ' H' => tSL X l2 D σ' H' } m H (l1 ρ S) := by
  obtain ⟨fl, S', q⟩ := h.ok
  obtain ⟨a, S1, q1, q2⟩ := bind_nbad q
  have key : lSeq l1 l2 ρ S = Fl.go l2 a S1 := by unfold lSeq; rw [q1]; rfl
  refine ⟨⟨a, S1, q1⟩, fun ρ' S2 e σ' H' z => ?_, fun d S2 e v H' z => ?_, fun ρ' S2 e σ' H' z => ?_, fun ρ' S2 e σ' H' z => ?_, fun C fs ρ' S2 e u s' z => ?_⟩
  · rw [q1] at e
    cases e
    obtain ⟨m', e', x', er', hl'⟩ := z
    rw [key] at h
    exact ⟨m', ρ', S1, x', er', hl', HS.ext h e'⟩
  · rw [q1] at e
    cases e
    exact h.rt d S1 key v H' z
  · rw [q1] at e
    cases e
    exact h.bk ρ' S1 key σ' H' z
  · rw [q1] at e
    cases e
    exact h.ct ρ' S1 key σ' H' z
  · rw [q1] at e
    cases e
    exact h.ex C fs ρ' S1 key u s' z
theorem pssl_cons (h1 : PSL X st l1) (h2 : PSsL X rest l2) : PSsL X (st :: rest) (lSeq l1 l2) :=
  pss_imp (pss_cons h1 h2) fun D σ H ⟨m, ρ, S, x, er, hl, h⟩ => ⟨m, ρ, S, x, er, hl, h.seq⟩
theorem psl_pass : PSL X (.Pass pos) lNext := ps_imp ps_pass fun D σ H ⟨m, ρ, S, x, er, hl, h⟩ => h.nx ρ S rfl σ H (sv_same x er hl)
def lBrk : LS := fun ρ S => .ok (.bk ρ) S
def lCont : LS := fun ρ S => .ok (.ct ρ) S
theorem psl_break : PSL X (.Break pos) lBrk := ps_imp ps_break fun D σ H ⟨m, ρ, S, x, er, hl, h⟩ => h.bk ρ S rfl σ H (sv_same x er hl)
theorem psl_continue : PSL X (.Continue pos) lCont := ps_imp ps_continue fun D σ H ⟨m, ρ, S, x, er, hl, h⟩ => h.ct ρ S rfl σ H (sv_same x er hl)
/-- an expression whose value is dropped -/
def lExpr (le : LE) : LS := fun ρ S => liftX ρ (le ρ S) fun _ S1 => .ok (.nx ρ) S1
theorem psl_expr (he : PEL X e le) (hs : swapsWith e none pos.line X.env = pure false := by rfl) : PSL X (.Expr e pos) (lExpr le) := by
  refine ⟨fun pins s σ H D I ⟨m, ρ, S, x, er, hl, h⟩ => ?_⟩
  exact wpAny_Expr_any (expr_in he I x er hl h fun d S1 q v u s1 H1 m1 I1 rv e1 x1 w er1 h1 => ⟨σ, H1, I1, h1.nx ρ S1 rfl σ H1 (sv_same x1 er1 hl)⟩) I.quiet hs
def lRet (le : LE) : LS := fun ρ S => liftX ρ (le ρ S) fun d S1 => .ok (.rt d) S1
theorem psl_ret (he : PEL X e le) : PSL X (.Return (some e) pos) (lRet le) := by
  refine ⟨fun pins s σ H D I ⟨m, ρ, S, x, er, hl, h⟩ => ?_⟩
  exact wpAny_Return_some (expr_in he I x er hl h fun d S1 q v u s1 H1 m1 I1 rv e1 x1 w er1 h1 => ⟨v, σ, H1, I1, rv, h1.rt d S1 rfl v H1 (qv_same x1 w)⟩)
def lRetN : LS := fun _ S => .ok (.rt .non) S
theorem psl_retN : PSL X (.Return none pos) lRetN := ps_imp ps_retN fun D σ H ⟨m, ρ, S, x, er, hl, h⟩ => h.rt .non S rfl .non H (qv_same x .non)
def lIfS (tc : LT) (l1 l2 : LS) : LS := fun ρ S => liftX ρ (tc ρ S) fun b S1 => if b = true then l1 ρ S1 else l2 ρ S1
theorem psl_if {a b : List Stmt} (hc : PTL X c tc) (ha : PSsL X a l1) (hb : PSsL X b l2) : PSL X (.If c a b pos) (lIfS tc l1 l2) := by
  refine ⟨fun pins s σ H D I ⟨m, ρ, S, x, er, hl, h⟩ => ?_⟩
  refine wpAny_If (test_in hc I x er hl h fun k S1 q s1 H1 m1 I1 e1 x1 er1 h1 => ?_)
  cases k with
  | true => exact ha.run pins s1 σ H1 D I1 ⟨m1, ρ, S1, x1, er1, hl, h1⟩
  | false => exact hb.run pins s1 σ H1 D I1 ⟨m1, ρ, S1, x1, er1, hl, h1⟩
/-- name = e -/
def lSet (i : Nat) (le : LE) : LS := fun ρ S => liftX ρ (le ρ S) fun d S1 => .ok (.nx (ρ.set i (some d))) S1
theorem psl_set {i : Nat} (hN : X.N.Nodup) (he : PEL X e le) (hi : X.N[i]? = some x := by rfl) (hx : Loc X.env.scope x := by first | exact .inl rfl | exact .inr rfl) (hs : swapsWith e (some (.Name x pos')) pos.line X.env = pure false := by rfl) (hf : X.fn x = true ∨ X.env.scope.names.lookup x = some .local := by first | exact .inl rfl | exact .inr rfl | assumption) :
    PSL X (.Assign [.Name x pos'] e pos) (lSet i le) := by
  refine ⟨fun pins s σ H D I ⟨m, ρ, S, x0, er, hl, h⟩ => ?_⟩
  refine wpAny_Assign_Name (expr_in he I x0 er hl h fun d S1 q v u s1 H1 m1 I1 rv e1 x1 w er1 h1 => ?_) hs
  exact store_ok I1 hN hi hx rv (fun s2 I2 => ⟨_, H1, I2, h1.nx _ S1 rfl _ H1 ⟨m1, Ext.refl, x1, er1.set w, by simp [hl]⟩⟩) hf
end
end MP

namespace MP
open PySem PySem.Spec PyProof.Rows L2

/-! ### while -/
def tTX (X : Cx) (l : LT) : TT := fun σ H Q => ∃ m ρ S, SR X.K m H S ∧ ER X.K m H σ ρ ∧ Hope X σ m H (l ρ S) ∧ ∀ b S', l ρ S = .ok b S' → ∀ H' m', Ext m H m' H' → SR X.K m' H' S' → Q b H'
theorem PTL.ptx {X : Cx} {e : Expr} {l : LT} (h : PTL X e l) : PT X e (tTX X l) := by
  refine ⟨fun pins s σ H Q I ⟨m, ρ, S, x, r, hp, k⟩ => ?_⟩
  exact thn (h.run pins s σ H m ρ S I x r hp) fun u s' ⟨S2, H', m', e, I', e', x'⟩ => ⟨H', I', k u S2 e H' m' e' x'⟩
/-- a loop's turn forgets what was not there ahead of the loop -/
def wk : Ev → Ev → Ev
  | _, [] => []
  | [], _ :: bs => none :: wk [] bs
  | none :: as, _ :: bs => none :: wk as bs
  | some _ :: as, b :: bs => b :: wk as bs
theorem wk_length : ∀ (as bs : Ev), (wk as bs).length = bs.length
  | _, [] => by cases ‹Ev› <;> rfl
  | [], _ :: bs => by simp [wk, wk_length]
  | none :: as, _ :: bs => by simp [wk, wk_length]
  | some _ :: as, b :: bs => by simp [wk, wk_length]
theorem wk_some : ∀ {as bs : Ev} {i : Nat} {d : D}, (wk as bs)[i]? = some (some d) → bs[i]? = some (some d)
  | as, [], i, d, h => by cases as <;> simp [wk] at h
  | [], b :: bs, 0, d, h => by simp [wk] at h
  | [], b :: bs, i + 1, d, h => by
    simp only [wk, List.getElem?_cons_succ] at h ⊢
    exact wk_some h
  | none :: as, b :: bs, 0, d, h => by simp [wk] at h
  | none :: as, b :: bs, i + 1, d, h => by
    simp only [wk, List.getElem?_cons_succ] at h ⊢
    exact wk_some h
  | some _ :: as, b :: bs, 0, d, h => by simpa [wk] using h
  | some _ :: as, b :: bs, i + 1, d, h => by
    simp only [wk, List.getElem?_cons_succ] at h ⊢
    exact wk_some h
theorem SV.wk {K : PySem.W.Frag} {m : List Addr} {H : Hp} {ρ' : Ev} {S' : Sto} {σ' : L2.St} {H' : Hp} (ρ0 : Ev) (h : SV K m H ρ' S' σ' H') : SV K m H (MP.wk ρ0 ρ') S' σ' H' := by
  obtain ⟨m', a, b, c, d⟩ := h
  exact ⟨m', a, b, ⟨fun i x e => c.at_ i x (wk_some e), by rw [wk_length]; exact d⟩, by rw [wk_length]; exact d⟩
def Fl.loop (ρ0 : Ev) (k : LS) (fl : Fl) (S : Sto) : R Fl := match fl with
  | .nx ρ => k (wk ρ0 ρ) S
  | .ct ρ => k (wk ρ0 ρ) S
  | .bk ρ => .ok (.nx (wk ρ0 ρ)) S
  | fl => .ok fl S
def whileG (ρ0 : Ev) (tc : LT) (lb : LS) : Nat → LS
  | 0 => fun _ _ => .bad
  | n + 1 => fun ρ S => liftX ρ (tc ρ S) fun b S1 => if b = true then (lb ρ S1).bind (Fl.loop ρ0 (whileG ρ0 tc lb n)) else .ok (.nx ρ) S1
def lWhile (n : Nat) (tc : LT) (lb : LS) : LS := fun ρ S => whileG ρ tc lb n ρ S
theorem HS.loop {X : Cx} {D : Ends} {m : List Addr} {H : Hp} {l k : LS} {ρ ρ0 : Ev} {S : Sto} (h : HS X D m H ((l ρ S).bind (Fl.loop ρ0 k))) : HS X { D with nx := fun σ' H' => tSL X k D σ' H', ct := fun σ' H' => tSL X k D σ' H', bk := D.nx } m H (l ρ S) := by
  obtain ⟨fl, S', q⟩ := h.ok
  obtain ⟨a, S1, q1, q2⟩ := bind_nbad q
  have key : (l ρ S).bind (Fl.loop ρ0 k) = Fl.loop ρ0 k a S1 := by rw [q1]; rfl
  rw [key] at h
  refine ⟨⟨a, S1, q1⟩, fun ρ' S2 e σ' H' z => ?_, fun d S2 e v H' z => ?_, fun ρ' S2 e σ' H' z => ?_, fun ρ' S2 e σ' H' z => ?_, fun C fs ρ' S2 e u s' z => ?_⟩
  · rw [q1] at e
    cases e
    obtain ⟨m', e', x', er', hl'⟩ := z.wk ρ0
    exact ⟨m', _, S1, x', er', hl', HS.ext h e'⟩
  · rw [q1] at e
    cases e
    exact h.rt d S1 rfl v H' z
  · rw [q1] at e
    cases e
    exact h.nx _ S1 rfl σ' H' (z.wk ρ0)
  · rw [q1] at e
    cases e
    obtain ⟨m', e', x', er', hl'⟩ := z.wk ρ0
    exact ⟨m', _, S1, x', er', hl', HS.ext h e'⟩
  · rw [q1] at e
    cases e
    exact h.ex C fs ρ' S1 rfl u s' z
theorem psl_while {X : Cx} {c : Expr} {body : List Stmt} {tc : LT} {lb : LS} {pos : Pos} (n : Nat) (hp : PassesOwn (model X.prog X.w) X.A X.env X.xe) (hc : PTL X c tc) (hb : PSsL X body lb) : PSL X (.While c body [] pos) (lWhile n tc lb) := by
  refine ps_imp (ps_while hp hc.ptx hb) fun D σ H h => ?_
  obtain ⟨m0, ρ0, S0, x0, er0, hl0, h0⟩ := h
  refine ⟨fun k σ H => tSL X (whileG ρ0 tc lb k) D σ H, ⟨n, m0, ρ0, S0, x0, er0, hl0, h0⟩, ?_⟩
  rintro k σ H ⟨m, ρ, S, x, er, hl, h⟩
  cases k with
  | zero => obtain ⟨fl, S', q⟩ := h.ok; cases q
  | succ k =>
    have h' : HS X D m H (liftX ρ (tc ρ S) fun b S1 => if b = true then (lb ρ S1).bind (Fl.loop ρ0 (whileG ρ0 tc lb k)) else .ok (.nx ρ) S1) := h
    refine ⟨m, ρ, S, x, er, HS.hope h' er hl x, fun b S' q H' m' e x' => ?_⟩
    rw [q] at h'
    have h2 : HS X D m' H' (if b = true then (lb ρ S').bind (Fl.loop ρ0 (whileG ρ0 tc lb k)) else .ok (.nx ρ) S') := HS.ext h' e
    cases b with
    | true =>
      rw [if_pos rfl] at h2 ⊢
      exact ⟨fun σ' H' => tSL X (whileG ρ0 tc lb k) D σ' H', fun σ' H' z => ⟨k, Nat.lt_succ_self _, z⟩, m', ρ, S', x', er.ext e x.muts, hl, h2.loop⟩
    | false =>
      rw [if_neg Bool.false_ne_true] at h2 ⊢
      exact h2.nx ρ S' rfl σ H' (sv_same x' (er.ext e x.muts) hl)

/-! ### what is walked -/
/-- the items, and what must stay of the store meanwhile -/
structure Its' where
  items : List D
  chk : Sto → Prop
abbrev LI := Ev → Sto → R Its'
/-- what a turn hands over: a thing of the layer, or a new tuple of such -/
def YS (K : PySem.W.Frag) (m : List Addr) (H Hx : Hp) (x : V) (H' : Hp) (d : D) : Prop :=
  (H' = Hx ∧ VR K m H x d) ∨ ∃ T ws ds, Hx T = none ∧ H' = upd Hx T (.tup ws) ∧ x = .ref T ∧ d = .tup ds ∧ VRs K m H ws ds
def Ylds (K : PySem.W.Frag) (J : It) (m1 : List Addr) (H1 : Hp) (it : Its') : Prop := ∀ m2 H2 S2 Hx, Ext m1 H1 m2 H2 → SR K m2 H2 S2 → it.chk S2 → (∀ a o, H2 a = some o → Hx a = some o) →
  (∀ (i : Nat) (d : D), it.items[i]? = some d → J.go i Hx ∧ ∀ x H', J.yld i Hx x H' → YS K m2 H2 Hx x H' d) ∧ ∀ i, it.items.length ≤ i → J.stop i Hx
def tIL (X : Cx) (li : LI) : TI := fun σ H Rr => ∃ m ρ S, SR X.K m H S ∧ ER X.K m H σ ρ ∧ Hope X σ m H (li ρ S) ∧ ∀ it S1, li ρ S = .ok it S1 → ∀ J H1 m1, Ext m H m1 H1 → SR X.K m1 H1 S1 → Ylds X.K J m1 H1 it → Rr J H1
def PIL (X : Cx) (tg iter : Expr) (li : LI) : Prop := PI X tg iter (tIL X li)
def iterOf (S : Sto) : D → Option Its'
  | .lst xs => some ⟨xs, fun _ => True⟩
  | .tup xs => some ⟨xs, fun _ => True⟩
  | .ftup xs => some ⟨xs, fun _ => True⟩
  | .str z => some ⟨z.cps.toList.map fun c => .str ⟨#[c]⟩, fun _ => True⟩
  | .ref i => match S[i]? with
    | some (.lst xs) => some ⟨xs, fun S' => S'[i]? = some (.lst xs)⟩
    | _ => none
  | _ => none
def liftI (o : Option Its') (S : Sto) : R Its' := match o with
  | some d => .ok d S
  | none => .bad
def lIter (l : LE) : LI := fun ρ S => (l ρ S).bind fun d S1 => liftI (iterOf S1 d) S1
theorem yl_list {K : PySem.W.Frag} {m1 : List Addr} {H1 : Hp} {a : Addr} {vs : List V} {xs : List D} (mu : ∀ a ∈ m1, Mut (H1 a)) (n : a ∉ m1) (h : Rd H1 a (.lst vs)) (r : VRs K m1 H1 vs xs) : Ylds K (Itl K a) m1 H1 ⟨xs, fun _ => True⟩ := fun m2 H2 S2 Hx e x _ sup => by
  have h2 := e.rd n h
  have h3 : Rd Hx a (.lst vs) := by
    rcases h2 with h2 | ⟨o, h2⟩
    · exact .inl (sup _ _ h2)
    · exact .inr ⟨o, sup _ _ h2⟩
  have r2 := r.ext e mu
  refine ⟨fun i d hi => ?_, fun i hi => ⟨vs, .inl h3, by rw [r.length]; exact hi⟩⟩
  obtain ⟨v, hv, w⟩ := r2.getr hi
  refine ⟨⟨vs, v, .inl h3, hv⟩, fun y H' z => .inl ⟨z.1, ?_⟩⟩
  have := z.2 vs (.inl h3)
  rw [hv] at this
  cases this
  exact w
theorem yl_listK {K : PySem.W.Frag} {m1 : List Addr} {H1 : Hp} {a : Addr} {vs : List V} {xs : List D} (mu : ∀ a ∈ m1, Mut (H1 a)) (h : ∀ H, SqL K H a vs) (r : VRs K m1 H1 vs xs) : Ylds K (Itl K a) m1 H1 ⟨xs, fun _ => True⟩ := fun m2 H2 S2 Hx e x _ sup => by
  have r2 := r.ext e mu
  refine ⟨fun i d hi => ?_, fun i hi => ⟨vs, h _, by rw [r.length]; exact hi⟩⟩
  obtain ⟨v, hv, w⟩ := r2.getr hi
  refine ⟨⟨vs, v, h _, hv⟩, fun y H' z => .inl ⟨z.1, ?_⟩⟩
  have := z.2 vs (h _)
  rw [hv] at this
  cases this
  exact w
theorem yl_ref {K : PySem.W.Frag} {m1 : List Addr} {H1 : Hp} {a : Addr} {xs : List D} {j : Nat} (hj : m1[j]? = some a) : Ylds K (Itl K a) m1 H1 ⟨xs, fun S' => S'[j]? = some (.lst xs)⟩ := fun m2 H2 S2 Hx e x c sup => by
  have z := x.at_ j a _ (e.get hj) c
  cases z with
  | lst h r =>
    rename_i vs
    have h3 : SqL K Hx a vs := SqL.of (sup _ _ h)
    refine ⟨fun i d hi => ?_, fun i hi => ⟨vs, h3, by rw [r.length]; exact hi⟩⟩
    obtain ⟨v, hv, w⟩ := r.getr hi
    refine ⟨⟨vs, v, h3, hv⟩, fun y H' z => .inl ⟨z.1, ?_⟩⟩
    have := z.2 vs h3
    rw [hv] at this
    cases this
    exact w
theorem yl_tup {K : PySem.W.Frag} {m1 : List Addr} {H1 : Hp} {a : Addr} {vs : List V} {xs : List D} (mu : ∀ a ∈ m1, Mut (H1 a)) (h : Rd H1 a (.tup vs)) (r : VRs K m1 H1 vs xs) : Ylds K (Itt K a) m1 H1 ⟨xs, fun _ => True⟩ := fun m2 H2 S2 Hx e x _ sup => by
  have h3 : SqT K Hx a vs := SqT.rd (Rd.sup sup (e.rd (fun z => not_mut_tup h (mu a z)) h))
  have r2 := r.ext e mu
  refine ⟨fun i d hi => ?_, fun i hi => ⟨vs, h3, by rw [r.length]; exact hi⟩⟩
  obtain ⟨v, hv, w⟩ := r2.getr hi
  refine ⟨⟨vs, v, h3, hv⟩, fun y H' z => .inl ⟨z.1, ?_⟩⟩
  have := z.2 vs h3
  rw [hv] at this
  cases this
  exact w
theorem yl_str {K : PySem.W.Frag} {m1 : List Addr} {H1 : Hp} {z : Str} : Ylds K (L2.Its z) m1 H1 ⟨z.cps.toList.map fun c => .str ⟨#[c]⟩, fun _ => True⟩ := fun m2 H2 S2 Hx e x _ sup => by
  refine ⟨fun i d hi => ?_, fun i hi => by show z.cps.size ≤ i; simpa using hi⟩
  have hl : i < z.cps.size := by
    have := (List.getElem?_eq_some_iff.mp hi).1
    simpa using this
  refine ⟨hl, fun y H' q => .inl ⟨q.1, ?_⟩⟩
  obtain ⟨c, hc, rfl⟩ := q.2
  simp only [List.getElem?_map, Array.getElem?_toList, hc, Option.map_some, Option.some.injEq] at hi
  subst hi
  exact .str _
section
variable {X : Cx} {tg e : Expr} {l : LE} {t : LA} {p pos : Pos} {a b : Expr}
theorem pil_val (he : PEL X e l) : PIL X tg e (lIter l) := by
  refine ⟨fun pins s σ H Rr I ⟨m, ρ, S, x, er, hp, k⟩ => ?_⟩
  refine run_seq he I x er hp fun d S1 q v u s1 H1 m1 I1 rv e1 x1 w er1 hp1 => ?_
  cases q2 : iterOf S1 d with
  | none => rw [q2] at hp1; exact absurd rfl hp1.1
  | some it =>
    have q3 : lIter l ρ S = .ok it S1 := by unfold lIter; rw [q, bind_ok, q2]; rfl
    have K2 := fun J y => k it S1 q3 J H1 m1 e1 x1 y
    cases w with
    | @lst a vs xs n h r =>
      cases q2
      obtain rfl : u = Value.ref a := rv
      obtain ⟨its, rv', pp, hz⟩ := I1.list (.inl h)
      refine wpAny_pyIter_list pp.isList ?_
      refine ⟨s1.heap.objs.size, [s1.heap.objs.size], _, _, H1, rfl, I1.kept (t' := s1.toks) fun b o e => Heap.get?_push_of_some _ e, turn_list a _, ⟨_, Heap.get?_push_size _ rfl, rfl, rfl⟩, fun b hb => ?_, K2 _ (yl_list x1.muts n h r)⟩
      have e : b = s1.heap.objs.size := by simpa using hb
      subst e
      exact I1.fpOk (Nat.le_refl _) (I1.hok.fresh (Nat.le_refl _))
    | @lstK a vs xs ob its n hk h1 h2 h3 h4 h5 r =>
      cases q2
      obtain rfl : u = Value.ref a := rv
      obtain ⟨its, rv', pp, hz⟩ := I1.list (H := H1) (a := a) (.inr ⟨ob, its, n, hk, h1, h2, h3, h4, h5⟩)
      refine wpAny_pyIter_list pp.isList ?_
      refine ⟨s1.heap.objs.size, [s1.heap.objs.size], _, _, H1, rfl, I1.kept (t' := s1.toks) fun b o e => Heap.get?_push_of_some _ e, turn_list a _, ⟨_, Heap.get?_push_size _ rfl, rfl, rfl⟩, fun b hb => ?_, K2 _ (yl_listK x1.muts (fun _ => .inr ⟨ob, _, n, hk, h1, h2, h3, h4, h5⟩) r)⟩
      have e : b = s1.heap.objs.size := by simpa using hb
      subst e
      exact I1.fpOk (Nat.le_refl _) (I1.hok.fresh (Nat.le_refl _))
    | @tup a vs xs h r =>
      cases q2
      obtain rfl : u = Value.ref a := rv
      obtain ⟨its, rv', pp, hz⟩ := I1.tuple (SqT.of h)
      refine wpAny_pyIter_tuple (show s1.heap.IsTuple a its.toArray from pp) ?_
      refine ⟨s1.heap.objs.size, [s1.heap.objs.size], _, _, H1, rfl, I1.kept (t' := s1.toks) fun b o e => Heap.get?_push_of_some _ e, turn_tuple a _, ⟨_, Heap.get?_push_size _ rfl, rfl, rfl⟩, fun b hb => ?_, K2 _ (yl_tup x1.muts (.inl h) r)⟩
      have e : b = s1.heap.objs.size := by simpa using hb
      subst e
      exact I1.fpOk (Nat.le_refl _) (I1.hok.fresh (Nat.le_refl _))
    | @ftup a vs xs o hd h r =>
      cases q2
      obtain rfl : u = Value.ref a := rv
      obtain ⟨its, rv', pp, hz⟩ := I1.tuple (SqT.rd (.inr ⟨o, h⟩))
      refine wpAny_pyIter_tuple (show s1.heap.IsTuple a its.toArray from pp) ?_
      refine ⟨s1.heap.objs.size, [s1.heap.objs.size], _, _, H1, rfl, I1.kept (t' := s1.toks) fun b o e => Heap.get?_push_of_some _ e, turn_tuple a _, ⟨_, Heap.get?_push_size _ rfl, rfl, rfl⟩, fun b hb => ?_, K2 _ (yl_tup x1.muts (.inr ⟨o, h⟩) r)⟩
      have e : b = s1.heap.objs.size := by simpa using hb
      subst e
      exact I1.fpOk (Nat.le_refl _) (I1.hok.fresh (Nat.le_refl _))
    | str z =>
      cases q2
      obtain ⟨tk, rfl⟩ := rv
      cases ha : z.cps.all (· < 128)
      · exact wpAny_pyIter_wide ha (pi_one (tk := s1.toks) I1 _ (turn_str _ z tk "str_iterator" (.inr rfl)) ⟨_, Heap.get?_push_size _ rfl, rfl, rfl⟩ (K2 _ yl_str))
      · exact wpAny_pyIter_ascii ha (pi_one (tk := s1.toks) I1 _ (turn_str _ z tk "str_ascii_iterator" (.inl rfl)) ⟨_, Heap.get?_push_size _ rfl, rfl, rfl⟩ (K2 _ yl_str))
    | @ref i a h =>
      dsimp only [iterOf] at q2
      cases q4 : S1[i]? with
      | none => rw [q4] at q2; cases q2
      | some ob =>
        rw [q4] at q2
        cases ob with
        | lst xs =>
          cases q2
          have z := x1.at_ i a _ h q4
          cases z with
          | lst h' r =>
            obtain rfl : u = Value.ref a := rv
            obtain ⟨its, rv', pp, hz⟩ := I1.list (SqL.of h')
            refine wpAny_pyIter_list pp.isList ?_
            refine ⟨s1.heap.objs.size, [s1.heap.objs.size], _, _, H1, rfl, I1.kept (t' := s1.toks) fun b o e => Heap.get?_push_of_some _ e, turn_list a _, ⟨_, Heap.get?_push_size _ rfl, rfl, rfl⟩, fun b hb => ?_, K2 _ (yl_ref h)⟩
            have e : b = s1.heap.objs.size := by simpa using hb
            subst e
            exact I1.fpOk (Nat.le_refl _) (I1.hok.fresh (Nat.le_refl _))
        | dct _ _ => cases q2
        | ins _ _ => cases q2
    | _ => cases q2
/-- range(n) -/
def lRange1 (t : LA) : LI := fun ρ S => (t ρ S).bind fun ds S1 => match ds with
  | [.int j] => if -(2 ^ 62) ≤ j ∧ j < 2 ^ 62 then .ok ⟨(List.range j.toNat).map fun (i : Nat) => .int (i : Int), fun _ => True⟩ S1 else .bad
  | _ => .bad
theorem pil_range1 (hg : Gl X "range") (hm : X.mg "range" = none) (ha : PAL X [a] t) (hs : starEach [a] X.env = [(false, eval a X.env)] := by rfl) : PIL X tg (.Call (.Name "range" p) [a] [] pos) (lRange1 t) := by
  refine ⟨fun pins s σ H Rr I ⟨m, ρ, S, x, er, hp, k⟩ => ?_⟩
  refine Call_ (ld_blt I hg hm boot_range (PyProof.Rows.callWith_type1 (run_seqA ha I x er hp fun ds S1 q1 vs us s1 H1 m1 I1 rv e1 x1 w1 r1 hp1 => ?_) hs rfl))
  cases w1 with
  | nil => exact absurd rfl hp1.1
  | cons w w2 =>
    cases w2 with
    | cons _ _ => cases w <;> exact absurd rfl hp1.1
    | nil =>
      cases w with
      | int j =>
        have hz := hope_if hp1
        have q2 : lRange1 t ρ S = .ok ⟨(List.range j.toNat).map fun (i : Nat) => .int (i : Int), fun _ => True⟩ S1 := by unfold lRange1; rw [q1, bind_ok]; exact if_pos hz
        cases rv with
        | cons r rr =>
          cases rr
          obtain ⟨tk, rfl⟩ := r
          refine call_range_1 (range_it I1 (by omega) (by omega) hz.1 hz.2 (k _ S1 q2 _ H1 m1 e1 x1 fun m2 H2 S2 Hx e x _ sup => ⟨fun i d hi => ?_, fun i hi => ?_⟩))
          · have hl : i < (j - 0).toNat := by
              have := (List.getElem?_eq_some_iff.mp hi).1
              simpa using this
            refine ⟨hl, fun y H' q => .inl ⟨q.1, ?_⟩⟩
            rw [q.2]
            simp only [List.getElem?_map, List.getElem?_range (show i < j.toNat by simpa using hl), Option.map_some, Option.some.injEq] at hi
            subst hi
            rw [Int.zero_add]
            exact .int _
          · show (j - 0).toNat ≤ i
            simpa using hi
      | _ => exact absurd rfl hp1.1
/-- enumerate(a list) -/
def enumD (xs : List D) : List D := (List.range xs.length).zipWith (fun (i : Nat) x => .tup [.int (i : Int), x]) xs
def lEnum (t : LA) : LI := fun ρ S => (t ρ S).bind fun ds S1 => match ds with
  | [.lst xs] => .ok ⟨enumD xs, fun _ => True⟩ S1
  | _ => .bad
theorem enumD_get {xs : List D} {i : Nat} {d : D} (h : (enumD xs)[i]? = some d) : ∃ x, xs[i]? = some x ∧ d = .tup [.int (i : Int), x] := by
  unfold enumD at h
  rw [List.getElem?_zipWith] at h
  cases q : xs[i]? with
  | none => rw [q] at h; cases h2 : (List.range xs.length)[i]? <;> rw [h2] at h <;> cases h
  | some x =>
    have hl := (List.getElem?_eq_some_iff.mp q).1
    rw [q, List.getElem?_range hl] at h
    cases h
    exact ⟨x, rfl, rfl⟩
theorem enumD_length (xs : List D) : (enumD xs).length = xs.length := by simp [enumD]
theorem yl_enum {K : PySem.W.Frag} {m1 : List Addr} {H1 : Hp} {a : Addr} {vs : List V} {xs : List D} (mu : ∀ a ∈ m1, Mut (H1 a)) (n : a ∉ m1) (h : Rd H1 a (.lst vs)) (r : VRs K m1 H1 vs xs) : Ylds K (Ite K a) m1 H1 ⟨enumD xs, fun _ => True⟩ := fun m2 H2 S2 Hx e x _ sup => by
  have h2 := e.rd n h
  have h3 : SqL K Hx a vs := by
    rcases h2 with h2 | ⟨o, h2⟩
    · exact .inl (.inl (sup _ _ h2))
    · exact .inl (.inr ⟨o, sup _ _ h2⟩)
  have r2 := r.ext e mu
  refine ⟨fun i d hi => ?_, fun i hi => ⟨vs, h3, by rw [r.length, ← enumD_length]; exact hi⟩⟩
  obtain ⟨y, hy, rfl⟩ := enumD_get hi
  obtain ⟨v, hv, w⟩ := r2.getr hy
  refine ⟨⟨vs, v, h3, hv⟩, fun z H' q => .inr ?_⟩
  obtain ⟨T, z1, ez, hT, eH, hz⟩ := q
  have := hz vs h3
  rw [hv] at this
  cases this
  exact ⟨T, [.int i, v], _, hT, eH, ez, rfl, .cons (.int _) (.cons w .nil)⟩
theorem pil_enum {elts : List Expr} {kk : Nat} {tpos : Pos} (hg : Gl X "enumerate") (hm : X.mg "enumerate" = none) (ha : PAL X [e] t) (hs : starEach [e] X.env = [(false, eval e X.env)] := by rfl) :
    PIL X (.Tuple elts kk tpos) (.Call (.Name "enumerate" p) [e] [] pos) (lEnum t) := by
  refine ⟨fun pins s σ H Rr I ⟨m, ρ, S, x, er, hp, k⟩ => ?_⟩
  refine Call_ (ld_blt I hg hm boot_enumerate (PyProof.Rows.callWith_type1 (run_seqA ha I x er hp fun ds S1 q1 vs us s1 H1 m1 I1 rv e1 x1 w1 r1 hp1 => ?_) hs rfl))
  cases w1 with
  | nil => exact absurd rfl hp1.1
  | cons w w2 =>
    cases w2 with
    | cons _ _ => cases w <;> exact absurd rfl hp1.1
    | nil =>
      have fin : ∀ {a : Addr} {vs : List V} {xs : List D}, SqL X.K H1 a vs → us = [Value.ref a] → Ylds X.K (Ite X.K a) m1 H1 ⟨enumD xs, fun _ => True⟩ → lEnum t ρ S = .ok ⟨enumD xs, fun _ => True⟩ S1 → wpAny (model X.prog X.w) X.A (call (.type "enumerate") us) (fun itv s₂ => wpAny (model X.prog X.w) X.A (pyIter itv) (PIE X pins σ (.Tuple elts kk tpos) Rr) X.xe s₂) X.xe s1 := by
        intro a vs xs hq hu yl q2
        subst hu
        obtain ⟨its, rv', p', hz⟩ := I1.list hq
        refine call_enumerate_list p'.isList fun h' he hit hsz hk => wpAny_pyIter_enum he ?_
        have I2 : Inv X pins σ H1 { s1 with heap := h' } := I1.kept (t' := s1.toks) hk
        refine ⟨s1.heap.objs.size + 1, [s1.heap.objs.size + 1, s1.heap.objs.size], _, _, H1, rfl, I2, turn_enum a (s1.heap.objs.size + 1) s1.heap.objs.size, ⟨⟨.none, he⟩, hit, Nat.succ_ne_self _⟩, fun b hb => ?_, k _ S1 q2 _ H1 m1 e1 x1 yl⟩
        have e' : b = s1.heap.objs.size + 1 ∨ b = s1.heap.objs.size := by simpa using hb
        have hle : s1.heap.objs.size ≤ b := by
          rcases e' with z | z
          · rw [z]; exact Nat.le_add_right _ _
          · rw [z]; exact Nat.le_refl _
        exact I1.fpOk hle (I1.hok.fresh hle)
      cases w with
      | @lst a vs xs n h r =>
        refine fin (.inl h) ?_ (yl_enum x1.muts n h r) (by unfold lEnum; rw [q1]; rfl)
        cases rv with
        | cons r rr =>
          cases rr
          cases r
          rfl
      | @lstK a vs xs ob its n hk h1 h2 h3 h4 h5 r =>
        refine fin (a := a) (.inr ⟨ob, its, n, hk, h1, h2, h3, h4, h5⟩) ?_ (fun m2 H2 S2 Hx e x _ sup => ?_) (by unfold lEnum; rw [q1]; rfl)
        · cases rv with
          | cons r rr =>
            cases rr
            cases r
            rfl
        · have h3 : SqL X.K Hx a vs := .inr ⟨ob, its, n, hk, h1, h2, h3, h4, h5⟩
          have r2 := r.ext e x1.muts
          refine ⟨fun i d hi => ?_, fun i hi => ⟨vs, h3, by rw [r.length, ← enumD_length]; exact hi⟩⟩
          obtain ⟨y, hy, rfl⟩ := enumD_get hi
          obtain ⟨v, hv, w⟩ := r2.getr hy
          refine ⟨⟨vs, v, h3, hv⟩, fun z H' q => .inr ?_⟩
          obtain ⟨T, z1, ez, hT, eH, hz⟩ := q
          have := hz vs h3
          rw [hv] at this
          cases this
          exact ⟨T, [.int i, v], _, hT, eH, ez, rfl, .cons (.int _) (.cons w .nil)⟩
      | _ => exact absurd rfl hp1.1
end
end MP

namespace MP
open PySem PySem.Spec PyProof.Rows L2

/-! ### targets -/
abbrev GT := D → Ev → Option Ev
abbrev GTs := List D → Ev → Option Ev
def tGL (K : PySem.W.Frag) (ix : List Nat) (g : GT) : TG := fun v σ H Q => ∃ m Hr ρ d ρ', (∀ a xs, Hr a = some (.tup xs) → H a = some (.tup xs)) ∧ VR K m Hr v d ∧ ER K m Hr σ ρ ∧ ρ.length = σ.length ∧ g d ρ = some ρ' ∧
  ∀ σ', ER K m Hr σ' ρ' → ρ'.length = σ'.length → σ'.length = σ.length → (∀ j, j ∉ ix → σ'[j]? = σ[j]?) → Q σ' H
def tGLs (K : PySem.W.Frag) (ix : List Nat) (g : GTs) : TGs := fun vs σ H Q => ∃ m Hr ρ ds ρ', (∀ a xs, Hr a = some (.tup xs) → H a = some (.tup xs)) ∧ VRs K m Hr vs ds ∧ ER K m Hr σ ρ ∧ ρ.length = σ.length ∧ g ds ρ = some ρ' ∧
  ∀ σ', ER K m Hr σ' ρ' → ρ'.length = σ'.length → σ'.length = σ.length → (∀ j, j ∉ ix → σ'[j]? = σ[j]?) → Q σ' H
def PGL (X : Cx) (tg : Expr) (ix : List Nat) (g : GT) : Prop := PG X tg (tGL X.K ix g)
def PGsL (X : Cx) (tgs : List Expr) (ix : List Nat) (g : GTs) : Prop := PGs X tgs (tGLs X.K ix g)
theorem pg_imp {X : Cx} {tg : Expr} {t u : TG} (h : PG X tg t) (k : ∀ v σ H Q, u v σ H Q → t v σ H Q) : PG X tg u := ⟨fun pins s σ H v u' Q I r q => h.run pins s σ H v u' Q I r (k v σ H Q q)⟩
theorem pgs_imp {X : Cx} {tg : List Expr} {t u : TGs} (h : PGs X tg t) (k : ∀ v σ H Q, u v σ H Q → t v σ H Q) : PGs X tg u := ⟨fun pins s σ H v u' Q I r q => h.run pins s σ H v u' Q I r (k v σ H Q q)⟩
def gtName (i : Nat) : GT := fun d ρ => some (ρ.set i (some d))
def gtNil : GTs := fun ds ρ => match ds with
  | [] => some ρ
  | _ :: _ => none
def gtCons (g : GT) (gs : GTs) : GTs := fun ds ρ => match ds with
  | [] => none
  | d :: r => (g d ρ).bind fun ρ' => gs r ρ'
def gtTup (n : Nat) (gs : GTs) : GT := fun d ρ => match d with
  | .tup ds => if ds.length = n then gs ds ρ else none
  | _ => none
section
variable {X : Cx} {pos : Pos} {x : Str} {e : Expr} {es : List Expr}
theorem pgl_name {i : Nat} (hN : X.N.Nodup) (hi : X.N[i]? = some x := by rfl) (hx : Loc X.env.scope x := by first | exact .inl rfl | exact .inr rfl) (hf : X.fn x = true ∨ X.env.scope.names.lookup x = some .local := by first | exact .inl rfl | exact .inr rfl | assumption) : PGL X (.Name x pos) [i] (gtName i) :=
  pg_imp (pg_name hN hi hx hf) fun v σ H Q ⟨m, Hr, ρ, d, ρ', h1, h2, h3, h4, h5, k⟩ => by
    cases h5
    exact k _ (h3.set h2) (by simp [h4]) (by simp) fun j hj => by rw [List.getElem?_set_ne (fun z => hj (by simp [z]))]
theorem pgsl_nil : PGsL X [] [] gtNil := pgs_imp pgs_nil fun vs σ H Q ⟨m, Hr, ρ, ds, ρ', h1, h2, h3, h4, h5, k⟩ => by
  cases h2 with
  | nil => cases h5; exact ⟨rfl, k σ h3 h4 rfl fun _ _ => rfl⟩
  | cons _ _ => cases h5
theorem pgsl_cons {ix ix' : List Nat} {g : GT} {gs : GTs} (h1 : PGL X e ix g) (h2 : PGsL X es ix' gs) (hs : (assignEach (e :: es) X.env).map (·.2) = assign e X.env :: (assignEach es X.env).map (·.2) := by rfl) : PGsL X (e :: es) (ix ++ ix') (gtCons g gs) :=
  pgs_imp (pgs_cons h1 h2 hs) fun vs σ H Q ⟨m, Hr, ρ, ds, ρ', h1, h2, h3, h4, h5, k⟩ => by
    cases h2 with
    | nil => cases h5
    | @cons v d vs ds hv hr =>
      dsimp only [gtCons] at h5
      cases q : g d ρ with
      | none => rw [q] at h5; cases h5
      | some ρ1 =>
        rw [q] at h5
        exact ⟨v, vs, rfl, m, Hr, ρ, d, ρ1, h1, hv, h3, h4, q, fun σ1 e1 l1 l2 k1 => ⟨m, Hr, ρ1, ds, ρ', h1, hr, e1, l1, h5, fun σ2 e2 l3 l4 k2 => k σ2 e2 l3 (l4.trans l2) fun j hj => (k2 j fun z => hj (List.mem_append_right _ z)).trans (k1 j fun z => hj (List.mem_append_left _ z))⟩⟩
theorem pgl_tup {ix : List Nat} {gs : GTs} {n k : Nat} (hc : X.calm = true) (h : PGsL X es ix gs) (hn : (assignEach es X.env).length = n := by rfl) (hst : (assignEach es X.env).findIdx? (·.1) = none := by rfl) : PGL X (.Tuple es k pos) ix (gtTup n gs) :=
  pg_imp (pg_tup (n := n) hc h hn hst) fun v σ H Q ⟨m, Hr, ρ, d, ρ', h1, h2, h3, h4, h5, k⟩ => by
    cases h2 with
    | @tup a vs ds ha hr =>
      dsimp only [gtTup] at h5
      split at h5
      · rename_i hl
        exact ⟨a, vs, rfl, SqT.of (h1 _ _ ha), by rw [hr.length]; exact hl, m, Hr, ρ, ds, ρ', h1, hr, h3, h4, h5, k⟩
      · cases h5
    | _ => cases h5
end

/-! ### for -/
open Classical in
noncomputable def forG (ρ0 : Ev) (chk : Sto → Prop) (g : GT) (lb : LS) : List D → LS
  | [] => fun ρ S => if chk S then .ok (.nx ρ) S else .bad
  | d :: ds => fun ρ S => if chk S then (match g d ρ with
    | some ρ1 => (lb ρ1 S).bind (Fl.loop ρ0 (forG ρ0 chk g lb ds))
    | none => .bad) else .bad
noncomputable def lFor (li : LI) (g : GT) (lb : LS) : LS := fun ρ S => liftX ρ (li ρ S) fun it S1 => forG ρ it.chk g lb it.items ρ S1
theorem ys_vr {K : PySem.W.Frag} {m : List Addr} {H Hx H' : Hp} {x : V} {d : D} (mu : ∀ a ∈ m, Mut (H a)) (h : YS K m H H x H' d) : VR K m H' x d ∧ Ext m H m H' := by
  rcases h with ⟨rfl, h⟩ | ⟨T, ws, ds, hT, rfl, rfl, rfl, r⟩
  · exact ⟨h, Ext.refl⟩
  · exact ⟨.tup upd_same (r.ext (Ext.fresh hT) mu), Ext.fresh hT⟩
theorem psl_for {X : Cx} {tg iter : Expr} {body : List Stmt} {li : LI} {ix : List Nat} {g : GT} {lb : LS} {pos : Pos} (hp : PassesOwn (model X.prog X.w) X.A X.env X.xe) (hc : X.calm = true) (hi : PIL X tg iter li) (hg : PGL X tg ix g) (hb : PSsL X body lb)
    (hs : ∀ x, foldedSetIterable iter X.env x = pure x := by intro _; rfl) : PSL X (.For tg iter body [] pos) (lFor li g lb) := by
  refine ps_imp (ps_for hp hc hi hg hb hs) fun D σ H ⟨m0, ρ0, S0, x0, er0, hl0, h0⟩ => ?_
  have h0' : HS X D m0 H (liftX ρ0 (li ρ0 S0) fun it S1 => forG ρ0 it.chk g lb it.items ρ0 S1) := h0
  refine ⟨m0, ρ0, S0, x0, er0, HS.hope h0' er0 hl0 x0, fun it S1 q J H1 m1 e1 x1 yl => ?_⟩
  rw [q] at h0'
  have h1 : HS X D m1 H1 (forG ρ0 it.chk g lb it.items ρ0 S1) := HS.ext h0' e1
  refine ⟨fun i k σ H => k + i = it.items.length ∧ ∃ m ρ S, Ext m1 H1 m H ∧ SR X.K m H S ∧ ER X.K m H σ ρ ∧ ρ.length = σ.length ∧ HS X D m H (forG ρ0 it.chk g lb (it.items.drop i) ρ S), ⟨it.items.length, by simp, m1, ρ0, S1, Ext.refl, x1, er0.ext e1 x0.muts, hl0, by simpa using h1⟩, ?_⟩
  rintro i k σ H ⟨hk, m, ρ, S, e, x, er, hl, h⟩
  by_cases hi : i < it.items.length
  · have hd : it.items.drop i = it.items[i] :: it.items.drop (i + 1) := List.drop_eq_getElem_cons hi
    rw [hd] at h
    have hchk : it.chk S := by
      by_cases z : it.chk S
      · exact z
      · obtain ⟨fl, S', q⟩ := h.ok
        dsimp only [forG] at q
        rw [if_neg z] at q
        cases q
    dsimp only [forG] at h
    rw [if_pos hchk] at h
    cases hgd : g it.items[i] ρ with
    | none => rw [hgd] at h; obtain ⟨fl, S', q⟩ := h.ok; cases q
    | some ρ1 =>
      rw [hgd] at h
      dsimp only at h
      obtain ⟨y1, y2⟩ := yl m H S H e x hchk fun _ _ z => z
      obtain ⟨go, yy⟩ := y1 i it.items[i] (List.getElem?_eq_getElem hi)
      refine .inr ⟨go, fun σ' H' => ∃ m ρ S, Ext m1 H1 m H' ∧ SR X.K m H' S ∧ ER X.K m H' σ' ρ ∧ ρ.length = σ'.length ∧ HS X D m H' (forG ρ0 it.chk g lb (it.items.drop (i + 1)) ρ S), fun σ' H' z => ⟨k - 1, by omega, by omega, z⟩, fun v H' hy => ?_⟩
      obtain ⟨w, e2⟩ := ys_vr (Hx := H) x.muts (yy v H' hy)
      have x2 : SR X.K m H' S := by
        rcases yy v H' hy with ⟨rfl, _⟩ | ⟨T, ws, ds, hT, rfl, _⟩
        · exact x
        · exact x.fresh hT
      refine ⟨m, H', ρ, it.items[i], ρ1, fun _ _ z => z, w, er.ext e2 x.muts, hl, hgd, fun σ2 er2 hl2 _ _ => ⟨m, ρ1, S, x2, er2, hl2, ?_⟩⟩
      obtain ⟨fl, S', qok⟩ := (HS.ext h e2).ok
      obtain ⟨a, S3, qa, qb⟩ := bind_nbad qok
      -- the ways out, by the place where they lie
      have key : (lb ρ1 S).bind (Fl.loop ρ0 (forG ρ0 it.chk g lb (it.items.drop (i + 1)))) = Fl.loop ρ0 (forG ρ0 it.chk g lb (it.items.drop (i + 1))) a S3 := by rw [qa]; rfl
      have hA := HS.ext h e2
      rw [key] at hA
      refine ⟨⟨a, S3, qa⟩, fun ρ' S2 ee σ' H'' z => ?_, fun d S2 ee v H'' z => ?_, fun ρ' S2 ee σ' H'' z => ?_, fun ρ' S2 ee σ' H'' z => ?_, fun C fs ρ' S2 ee u s' z => ?_⟩
      · rw [qa] at ee
        cases ee
        obtain ⟨m', e', x', er', hl'⟩ := z.wk ρ0
        exact ⟨m', _, S3, (e.trans e2).trans e', x', er', hl', HS.ext hA e'⟩
      · rw [qa] at ee
        cases ee
        exact hA.rt d S3 rfl v H'' z
      · rw [qa] at ee
        cases ee
        exact hA.nx _ S3 rfl σ' H'' (z.wk ρ0)
      · rw [qa] at ee
        cases ee
        obtain ⟨m', e', x', er', hl'⟩ := z.wk ρ0
        exact ⟨m', _, S3, (e.trans e2).trans e', x', er', hl', HS.ext hA e'⟩
      · rw [qa] at ee
        cases ee
        exact hA.ex C fs ρ' S3 rfl u s' z
  · have hd : it.items.drop i = [] := List.drop_eq_nil_of_le (by omega)
    rw [hd] at h
    have hchk : it.chk S := by
      by_cases z : it.chk S
      · exact z
      · obtain ⟨fl, S', q⟩ := h.ok
        dsimp only [forG] at q
        rw [if_neg z] at q
        cases q
    dsimp only [forG] at h
    rw [if_pos hchk] at h
    obtain ⟨y1, y2⟩ := yl m H S H e x hchk fun _ _ z => z
    exact .inl ⟨y2 i (by omega), h.nx ρ S rfl σ H (sv_same x er hl)⟩
end MP

namespace MP
open PySem PySem.Spec PyProof.Rows L2

/-! ### a list that is being made is hidden -/
def hid (H : Hp) (p : Addr) : Hp := fun b => if b = p then none else H b
theorem hid_ne {H : Hp} {a p : Addr} (h : a ≠ p) : hid H p a = H a := if_neg h
theorem hid_same {H : Hp} {p : Addr} : hid H p p = none := if_pos rfl
section
variable {X : Cx} {pins : List (Addr × Obj)} {σ : L2.St} {H : Hp} {s : Shared} {p : Addr} {vs : List V}
theorem hide_inv (I : Inv X pins σ H s) (hD : H p = some (.lst vs)) : ∃ o, Inv X ((p, o) :: pins) σ (hid H p) s ∧ ∀ σ' s' H', Inv X ((p, o) :: pins) σ' H' s' → Inv X pins σ' (upd H' p (.lst vs)) s' ∧ H' p = none := by
  obtain ⟨hz, its, n, rv, ho⟩ : vs.length ≤ sizeLine ∧ ∃ (its : List Value) (n : Nat), Vals vs its ∧ s.heap.get? p = some { cls := .type "list", data := .seq its.toArray n } := I.hok p _ hD
  have ns : ∀ b o, X.s_0.heap.get? b = some o → X.H_0 b = none → b ∉ X.ex → b ≠ p := fun b o q n hx z => by
    have := I.base.free b o q n hx
    rw [z, hD] at this; cases this
  have nt : ∀ b u, H b = some u → (∀ xs, u ≠ .lst xs) → b ≠ p := fun b u q nl z => by
    rw [z, hD] at q
    cases q
    exact nl _ rfl
  have nloc : p ≠ X.env.locals := fun z => by
    have := I.free
    rw [← z, hD] at this; cases this
  have nfs : p ∉ X.fs := fun hb => by
    obtain ⟨_, o, ho', _⟩ := I.ok.funs.mem hb
    have := I.base.free p o ho' (I.ok.frf p hb) fun z => I.ok.exfs p z hb
    rw [hD] at this; cases this
  refine ⟨{ cls := .type "list", data := .seq its.toArray n }, ⟨I.ok, I.os, I.bare, ⟨I.base.keep, I.base.slot, fun b o q n hx => ?_, I.base.there, fun b xs q => ?_, fun b o u q => ?_, fun b ps q => ?_⟩, I.loc, I.cell, ?_, fun x c e => ?_, fun q hq => ?_, fun b u q => ?_, I.len⟩, fun σ' s' H' J => ?_⟩
  · rw [hid_ne (ns b o q n hx)]; exact I.base.free b o q n hx
  · rw [hid_ne (nt b _ (I.base.tups b xs q) fun _ z => nomatch z)]; exact I.base.tups b xs q
  · rw [hid_ne (nt b _ (I.base.frzs b o u q) fun _ z => nomatch z)]; exact I.base.frzs b o u q
  · obtain ⟨more, e⟩ := I.base.tbls b ps q
    exact ⟨more, by rw [hid_ne (nt b _ e fun _ z => nomatch z)]; exact e⟩
  · rw [hid_ne nloc.symm]; exact I.free
  · by_cases hc : c = p
    · rw [hc]; exact hid_same
    · rw [hid_ne hc]; exact I.freeC x c e
  · rcases List.mem_append.mp hq with z | z
    · obtain ⟨a1, a2, a3⟩ := I.pin q (List.mem_append_left _ z)
      refine ⟨a1, ?_, a3⟩
      by_cases hc : q.1 = p
      · rw [hc]; exact hid_same
      · rw [hid_ne hc]; exact a2
    · rcases List.mem_cons.mp z with z | z
      · subst z
        exact ⟨ho, hid_same, nloc, nfs, fun v z => nomatch z⟩
      · obtain ⟨a1, a2, a3⟩ := I.pin q (List.mem_append_right _ z)
        refine ⟨a1, ?_, a3⟩
        by_cases hc : q.1 = p
        · rw [hc]; exact hid_same
        · rw [hid_ne hc]; exact a2
  · have hb : b ≠ p := fun z => by rw [z, hid_same] at q; cases q
    rw [hid_ne hb] at q
    exact (I.hok b u q).stay (fun c v _ z => z) (fun c z => by rw [hid_ne (nt c _ z fun _ z => nomatch z)]; exact z) fun c xs z => by rw [hid_ne (nt c _ z fun _ z => nomatch z)]; exact z
  · obtain ⟨p1, p2, _⟩ := J.pin (p, _) (List.mem_append_right _ List.mem_cons_self)
    have n2 : ∀ b u, H' b = some u → b ≠ p := fun b u q z => by rw [z, p2] at q; cases q
    refine ⟨⟨J.ok, J.os, J.bare, ⟨J.base.keep, J.base.slot, fun b o q n hx => ?_, J.base.there, fun b xs q => ?_, fun b o u q => ?_, fun b ps q => ?_⟩, J.loc, J.cell, ?_, fun x c e => ?_, fun q hq => ?_, fun b u q => ?_, J.len⟩, p2⟩
    · rw [upd_ne (ns b o q n hx)]; exact J.base.free b o q n hx
    · rw [upd_ne (n2 b _ (J.base.tups b xs q))]; exact J.base.tups b xs q
    · rw [upd_ne (n2 b _ (J.base.frzs b o u q))]; exact J.base.frzs b o u q
    · obtain ⟨more, e⟩ := J.base.tbls b ps q
      exact ⟨more, by rw [upd_ne (n2 b _ e)]; exact e⟩
    · rw [upd_ne nloc.symm]; exact J.free
    · have : c ≠ p := fun z => by
        have := I.freeC x c e
        rw [z, hD] at this; cases this
      rw [upd_ne this]; exact J.freeC x c e
    · have hq' : q ∈ X.pn ++ (p, ({ cls := .type "list", data := .seq its.toArray n } : Obj)) :: pins := by
        rcases List.mem_append.mp hq with z | z
        · exact List.mem_append_left _ z
        · exact List.mem_append_right _ (List.mem_cons_of_mem _ z)
      obtain ⟨a1, a2, a3⟩ := J.pin q hq'
      refine ⟨a1, ?_, a3⟩
      have : q.1 ≠ p := fun z => by
        have := (I.pin q hq).2.1
        rw [z, hD] at this; cases this
      rw [upd_ne this]; exact a2
    · by_cases hb : b = p
      · subst hb
        rw [upd_same] at q
        cases q
        exact ⟨hz, its, n, rv, p1⟩
      · rw [upd_ne hb] at q
        exact (J.hok b u q).stay (fun c v _ z => z) (fun c z => by rw [upd_ne (n2 c _ z)]; exact z) fun c xs z => by rw [upd_ne (n2 c _ z)]; exact z
def tHide (t : TE) : TE := fun σ H Q => ∃ p vs, H p = some (.lst vs) ∧ t σ (hid H p) fun v H' => H' p = none → Q v (upd H' p (.lst vs))
def tHideT (t : TT) : TT := fun σ H Q => ∃ p vs, H p = some (.lst vs) ∧ t σ (hid H p) fun v H' => H' p = none → Q v (upd H' p (.lst vs))
theorem pe_hide {e : Expr} {t : TE} (h : PE X e t) : PE X e (tHide t) := by
  refine ⟨fun pins s σ H Q I ⟨p, vs, hp, q⟩ => ?_⟩
  obtain ⟨o, I1, back⟩ := hide_inv I hp
  exact thn (h.run _ s σ _ _ I1 q) fun u s' ⟨v, H', I', rv, q'⟩ => ⟨v, _, (back _ _ _ I').1, rv, q' (back _ _ _ I').2⟩
theorem pts_hide {es : List Expr} {t : TT} (h : PTs X es t) : PTs X es (tHideT t) := by
  refine ⟨fun pins s σ H Q I ⟨p, vs, hp, q⟩ => ?_⟩
  obtain ⟨o, I1, back⟩ := hide_inv I hp
  exact thn (h.run _ s σ _ _ I1 q) fun u s' ⟨H', I', q'⟩ => ⟨_, (back _ _ _ I').1, q' (back _ _ _ I').2⟩
end

/-! ### comprehensions -/
def noex {α : Type} (r : R α) : R α := match r with
  | .exc _ _ _ => .bad
  | r => r
def wipeE (ρ : Ev) : List Nat → Ev
  | [] => ρ
  | i :: r => (wipeE ρ r).set i none
open Classical in
noncomputable def compG (chk : Sto → Prop) (g : GT) (tt : LT) (te : LE) (ρ0 : Ev) : List D → Sto → R (List D)
  | [], S => if chk S then .ok [] S else .bad
  | d :: ds, S => if chk S then (match g d ρ0 with
    | some ρ1 => (noex (tt ρ1 S)).bind fun b S1 => if b = true then (noex (te ρ1 S1)).bind fun y S2 => (compG chk g tt te ρ0 ds S2).bind fun ys S3 => .ok (y :: ys) S3 else compG chk g tt te ρ0 ds S1
    | none => .bad) else .bad
noncomputable def compL (li : LI) (ix : List Nat) (g : GT) (tt : LT) (te : LE) : LA := fun ρ S => (li ρ S).bind fun it S1 => if it.items.length ≤ sizeLine then compG it.chk g tt te (wipeE ρ ix) it.items S1 else .bad
/-- the list as it is; a list of the store -/
noncomputable def lComp (li : LI) (ix : List Nat) (g : GT) (tt : LT) (te : LE) : LE := fun ρ S => (compL li ix g tt te ρ S).bind fun ys S2 => .ok (.lst ys) S2
noncomputable def lCompN (li : LI) (ix : List Nat) (g : GT) (tt : LT) (te : LE) : LE := fun ρ S => (compL li ix g tt te ρ S).bind fun ys S2 => .ok (.ref S2.length) (S2 ++ [.lst ys])
def tYesL : LT := fun _ S => .ok true S
theorem wipeE_some : ∀ {ix : List Nat} {ρ : Ev} {i : Nat} {d : D}, (wipeE ρ ix)[i]? = some (some d) → ρ[i]? = some (some d) ∧ i ∉ ix
  | [], _, _, _, h => ⟨h, by simp⟩
  | j :: r, ρ, i, d, h => by
    by_cases hj : j = i
    · subst hj
      simp only [wipeE] at h
      by_cases hl : j < (wipeE ρ r).length
      · rw [List.getElem?_set_self hl] at h; cases h
      · rw [List.getElem?_eq_none (by simp; omega)] at h; cases h
    · simp only [wipeE] at h
      rw [List.getElem?_set_ne hj] at h
      obtain ⟨a, b⟩ := wipeE_some h
      exact ⟨a, by simp [b]; exact fun z => hj z.symm⟩
theorem wipeE_length (ρ : Ev) : ∀ ix : List Nat, (wipeE ρ ix).length = ρ.length
  | [] => rfl
  | j :: r => by simp [wipeE, wipeE_length ρ r]
theorem ER.wipe {K : PySem.W.Frag} {m : List Addr} {H : Hp} {σ : L2.St} {ρ : Ev} (r : ER K m H σ ρ) (ix : List Nat) : ER K m H (L2.wipe σ ix) (wipeE ρ ix) := ⟨fun i d h => by
  obtain ⟨h1, h2⟩ := wipeE_some h
  obtain ⟨v, h3, h4⟩ := r.at_ i d h1
  exact ⟨v, by rw [wipe_out h2]; exact h3, h4⟩, by rw [wipeE_length, wipe_length]; exact r.len⟩
theorem wipe_eq {σ σ' : L2.St} {ix : List Nat} (hl : σ'.length = σ.length) (h : ∀ j, j ∉ ix → σ'[j]? = σ[j]?) : L2.wipe σ' ix = L2.wipe σ ix := by
  apply List.ext_getElem?
  intro i
  by_cases hi : i ∈ ix
  · have z : ∀ τ : L2.St, τ.length = σ.length → (L2.wipe τ ix)[i]? = if i < σ.length then some none else none := fun τ ht => by
      cases q : (L2.wipe τ ix)[i]? with
      | none =>
        rw [List.getElem?_eq_none_iff, wipe_length, ht] at q
        rw [if_neg (by omega)]
      | some o =>
        have h1 := (List.getElem?_eq_some_iff.mp q).1
        rw [wipe_length, ht] at h1
        rw [if_pos h1]
        cases o with
        | none => rfl
        | some v => exact absurd hi (wipe_some q).2
    rw [z σ' hl, z σ rfl]
  · rw [wipe_out hi, wipe_out hi]
    exact h i hi
end MP

namespace MP
open PySem PySem.Spec PyProof.Rows L2

section
variable {K : PySem.W.Frag} {m : List Addr} {H H' : Hp} {p : Addr} {o : HO} {S : Sto}
theorem hid_upd (h : H p = none) : hid (upd H p o) p = H := by
  funext b
  by_cases e : b = p
  · rw [e, hid_same, h]
  · rw [hid_ne e, upd_ne e]
theorem upd_hid (h : H p = some o) : upd (hid H p) p o = H := by
  funext b
  by_cases e : b = p
  · rw [e, upd_same, h]
  · rw [upd_ne e, hid_ne e]
theorem sup_hid : ∀ a o, hid H p a = some o → H a = some o := fun a o e => by
  have : a ≠ p := fun z => by rw [z, hid_same] at e; cases e
  rwa [hid_ne this] at e
end
/-- what lc_core asks, from the store's words -/
theorem comp_read {X : Cx} {li : LI} {ix : List Nat} {g : GT} {tt : LT} {te : LE} {σ : L2.St} {H : Hp} {m : List Addr} {ρ : Ev} {S : Sto} (x0 : SR X.K m H S) (er0 : ER X.K m H σ ρ) (hp : Hope X σ m H (compL li ix g tt te ρ S)) {Q : VK}
    (hQ : ∀ ys S2, compL li ix g tt te ρ S = .ok ys S2 → ∀ p vs m2 H2, Ext m H m2 H2 → SR X.K m2 H2 S2 → H2 p = none → VRs X.K m2 H2 vs ys → Q (.ref p) (upd H2 p (.lst vs))) :
    tLc (tIL X li) (tGL X.K ix g) (tHideT (tT0 X.K tt)) (tHide (tL0 X.K te)) ix σ H Q := by
  refine ⟨m, ρ, S, x0, er0, hope_seq hp, fun it S1 q1 J H1 m1 e1 x1 yl => ?_⟩
  unfold compL at hp hQ
  rw [q1, bind_ok] at hp hQ
  have hz := hope_if hp
  rw [if_pos hz] at hp hQ
  have er1 := (er0.ext e1 x0.muts).wipe ix
  intro D hD
  -- what holds ahead of turn i: so much is made, the rest gives the rest
  refine ⟨fun i k H => k + i = it.items.length ∧ ∃ (vs : List V) (acc : List MP.D) (m : List Addr) (S : Sto), H D = some (.lst vs) ∧ Ext m1 H1 m (hid H D) ∧ SR X.K m (hid H D) S ∧ VRs X.K m (hid H D) vs acc ∧ acc.length ≤ i ∧
      ∃ ys S2, compG it.chk g tt te (wipeE ρ ix) (it.items.drop i) S = .ok ys S2 ∧ compG it.chk g tt te (wipeE ρ ix) it.items S1 = .ok (acc ++ ys) S2, ⟨it.items.length, by simp, [], [], m1, S1, upd_same, ?_, ?_, .nil, Nat.zero_le _, ?_⟩, ?_⟩
  · rw [hid_upd hD]; exact Ext.refl
  · rw [hid_upd hD]; exact x1
  · cases q : compG it.chk g tt te (wipeE ρ ix) it.items S1 with
    | bad => rw [q] at hp; exact absurd rfl hp.1
    | ok ys S2 => exact ⟨ys, S2, by simpa using q, by simp⟩
    | exc C fs S2 =>
      exfalso
      have : ∀ (l : List MP.D) (S : Sto) C fs S2, compG it.chk g tt te (wipeE ρ ix) l S ≠ .exc C fs S2 := by
        intro l
        induction l with
        | nil =>
          intro S C fs S2 z
          dsimp only [compG] at z
          split at z <;> cases z
        | cons d ds ih =>
          intro S C fs S2 z
          dsimp only [compG] at z
          split at z
          · split at z
            · rename_i ρ1 _
              cases q : tt ρ1 S with
              | bad => rw [q] at z; cases z
              | exc _ _ _ => rw [q] at z; cases z
              | ok b S3 =>
                rw [q] at z
                dsimp only [noex, R.bind] at z
                split at z
                · cases q2 : te ρ1 S3 with
                  | bad => rw [q2] at z; cases z
                  | exc _ _ _ => rw [q2] at z; cases z
                  | ok y S4 =>
                    rw [q2] at z
                    dsimp only [noex, R.bind] at z
                    cases q3 : compG it.chk g tt te (wipeE ρ ix) ds S4 with
                    | bad => rw [q3] at z; cases z
                    | ok _ _ => rw [q3] at z; cases z
                    | exc C' fs' S' => exact ih _ _ _ _ q3
                · exact ih _ _ _ _ z
            · cases z
          · cases z
      exact this _ _ _ _ _ q
  · rintro i k H ⟨hk, vs, acc, m2, S2, hHD, e2, x2, r2, hacc, ys, S3, c1, c2⟩
    have er2 : ER X.K m2 (hid H D) (L2.wipe σ ix) (wipeE ρ ix) := er1.ext e2 x1.muts
    by_cases hi : i < it.items.length
    · have hd : it.items.drop i = it.items[i] :: it.items.drop (i + 1) := List.drop_eq_getElem_cons hi
      rw [hd] at c1
      dsimp only [compG] at c1
      split at c1
      · rename_i hchk
        obtain ⟨y1, _⟩ := yl m2 (hid H D) S2 H e2 x2 hchk sup_hid
        obtain ⟨go, yy⟩ := y1 i it.items[i] (List.getElem?_eq_getElem hi)
        split at c1
        · rename_i ρ1 hg1
          refine .inr ⟨go, fun H' => (k - 1) + (i + 1) = it.items.length ∧ ∃ (vs : List V) (acc : List MP.D) (m : List Addr) (S : Sto), H' D = some (.lst vs) ∧ Ext m1 H1 m (hid H' D) ∧ SR X.K m (hid H' D) S ∧ VRs X.K m (hid H' D) vs acc ∧ acc.length ≤ i + 1 ∧
            ∃ ys S2, compG it.chk g tt te (wipeE ρ ix) (it.items.drop (i + 1)) S = .ok ys S2 ∧ compG it.chk g tt te (wipeE ρ ix) it.items S1 = .ok (acc ++ ys) S2, fun H' z => ⟨k - 1, by omega, z⟩, fun v H' hy => ?_⟩
          -- the turn's heap, D hidden
          obtain ⟨w, e3, hD', x3, hall⟩ : VR X.K m2 (hid H' D) v it.items[i] ∧ Ext m2 (hid H D) m2 (hid H' D) ∧ H' D = some (.lst vs) ∧ SR X.K m2 (hid H' D) S2 ∧ ∀ a xs, hid H' D a = some (.tup xs) → H' a = some (.tup xs) := by
            rcases yy v H' hy with ⟨rfl, w⟩ | ⟨T, ws, ds, hT, rfl, rfl, ed, rw'⟩
            · exact ⟨w, Ext.refl, hHD, x2, fun a xs z => sup_hid a _ z⟩
            · have hTD : T ≠ D := fun z => by rw [z, hHD] at hT; cases hT
              have hTh : hid H D T = none := by rw [hid_ne hTD]; exact hT
              have eh : hid (upd H T (.tup ws)) D = upd (hid H D) T (.tup ws) := by
                funext b
                by_cases hb : b = D
                · rw [hb, hid_same, upd_ne hTD.symm, hid_same]
                · rw [hid_ne hb]
                  by_cases hb2 : b = T
                  · rw [hb2, upd_same, upd_same]
                  · rw [upd_ne hb2, upd_ne hb2, hid_ne hb]
              rw [eh]
              refine ⟨?_, Ext.fresh hTh, by rw [upd_ne hTD.symm]; exact hHD, x2.fresh hTh, fun a xs z => ?_⟩
              · rw [ed]
                exact .tup upd_same (rw'.ext (Ext.fresh hTh) x2.muts)
              · rw [← eh] at z
                exact sup_hid a _ z
          refine ⟨m2, hid H' D, wipeE ρ ix, it.items[i], ρ1, hall, w, er2.ext e3 x2.muts, (er2.len), hg1, fun σ2 er3 hl2 hl3 hj => ⟨wipe_eq hl3 (fun j hjx => ?_) |>.trans ?_, ?_⟩⟩
          · exact hj j hjx
          · -- wiped twice
            exact wipe_eq (wipe_length σ ix) fun j hj => wipe_out hj
          · refine ⟨D, vs, hD', m2, ρ1, S2, x3, er3, ?_⟩
            cases qt : tt ρ1 S2 with
            | bad => rw [qt] at c1; cases c1
            | exc _ _ _ => rw [qt] at c1; cases c1
            | ok b S4 =>
              rw [qt] at c1
              dsimp only [noex, R.bind] at c1
              refine ⟨b, S4, rfl, fun H4 m4 e4 x4 hn4 => ?_⟩
              have r4 := (r2.ext e3 x2.muts).ext e4 x3.muts
              cases b with
              | true =>
                rw [if_pos rfl] at c1
                refine iteT ?_
                refine ⟨D, vs, upd_same, m4, ρ1, S4, by rw [hid_upd hn4]; exact x4, by rw [hid_upd hn4]; exact er3.ext e4 x3.muts, ?_⟩
                cases qe : te ρ1 S4 with
                | bad => rw [qe] at c1; cases c1
                | exc _ _ _ => rw [qe] at c1; cases c1
                | ok y S5 =>
                  rw [qe] at c1
                  dsimp only [noex, R.bind] at c1
                  refine ⟨y, S5, rfl, fun v5 H5 qv5 hn5 => ?_⟩
                  rw [hid_upd hn4] at qv5
                  obtain ⟨m5, e5, x5, w5⟩ := qv5
                  have r5 := r4.ext e5 x4.muts
                  refine ⟨vs, upd_same, ?_, by omega, vs ++ [v5], acc ++ [y], m5, S5, upd_same, ?_, ?_, ?_, by simp; omega, ?_⟩
                  · rw [r5.length]
                    exact Nat.lt_of_le_of_lt hacc (Nat.lt_of_lt_of_le hi hz)
                  · rw [upd_upd, hid_upd hn5]; exact ((e2.trans e3).trans e4).trans e5
                  · rw [upd_upd, hid_upd hn5]; exact x5
                  · rw [upd_upd, hid_upd hn5]; exact r5.append (.cons w5 .nil)
                  · cases qr : compG it.chk g tt te (wipeE ρ ix) (it.items.drop (i + 1)) S5 with
                    | bad => rw [qr] at c1; cases c1
                    | exc _ _ _ => rw [qr] at c1; cases c1
                    | ok zs S6 =>
                      rw [qr] at c1
                      cases c1
                      exact ⟨zs, _, rfl, by rw [c2]; simp⟩
              | false =>
                rw [if_neg Bool.false_ne_true] at c1
                refine iteF ?_
                exact ⟨by omega, vs, acc, m4, S4, upd_same, by rw [hid_upd hn4]; exact (e2.trans e3).trans e4, by rw [hid_upd hn4]; exact x4, by rw [hid_upd hn4]; exact r4, by omega, ys, S3, c1, c2⟩
        · cases c1
      · cases c1
    · have hd : it.items.drop i = [] := List.drop_eq_nil_of_le (by omega)
      rw [hd] at c1
      dsimp only [compG] at c1
      split at c1
      · rename_i hchk
        cases c1
        obtain ⟨_, y2⟩ := yl m2 (hid H D) S2 H e2 x2 hchk sup_hid
        refine .inl ⟨y2 i (by omega), ?_⟩
        have := hQ _ _ c2 D vs m2 (hid H D) (e1.trans e2) x2 hid_same (by simpa using r2)
        rw [upd_hid hHD] at this
        exact this
      · cases c1
section
variable {X : Cx} {elt tg iter : Expr} {ifs : List Expr} {scope : Scope} {own : List (Str × Nat)} {pos : Pos} {li : LI} {g : GT} {tt : LT} {te : LE}
/-- the tests of a comprehension -/
structure PTsL (X : Cx) (ifs : List Expr) (l : LT) : Prop where
  pts : PTs X ifs (tT0 X.K l)
theorem ptsl_nil : PTsL X [] tYesL := ⟨⟨fun pins s σ H Q I ⟨m, ρ, S, x, er, b, S', q, k⟩ => by
  cases q
  exact wpAny_tests_nil ⟨H, I, k H m Ext.refl x⟩⟩⟩
theorem ptsl_one {c : Expr} {t : LT} (h : PTL X c t) : PTsL X [c] t := ⟨pts_one h.pt⟩
theorem pel_lc (hc : X.calm = true) (hN : X.N.Nodup) (hi : PIL X tg iter li) (ok : BlkOk X.N X.env.scope scope own)
    (hg : ∀ (s : Shared) (H : Hp) (C : Addr) (cl : List (Str × Addr)) (fp : List Addr), PGL (X.blk s H scope (compEnvC scope cl C X.env) fp) tg (own.map (·.2)) g) (ht : ∀ (s : Shared) (H : Hp) (C : Addr) (cl : List (Str × Addr)) (fp : List Addr), PTsL (X.blk s H scope (compEnvC scope cl C X.env) fp) ifs tt)
    (he : ∀ (s : Shared) (H : Hp) (C : Addr) (cl : List (Str × Addr)) (fp : List Addr), PEL (X.blk s H scope (compEnvC scope cl C X.env) fp) elt te) (hs : ∀ x, foldedSetIterable iter X.env x = pure x := by intro _; rfl) :
    PEL X (.ListComp elt [⟨tg, iter, ifs, 0⟩] scope pos) (lComp li (own.map (·.2)) g tt te) :=
  .of_pe (pe_lc (g := tGL X.K (own.map fun q : Str × Nat => q.2) g) (tt := tHideT (tT0 X.K tt)) (te := tHide (tL0 X.K te)) hc hN hi ok hg (fun s H C cl fp => pts_hide (ht s H C cl fp).pts) (fun s H C cl fp => pe_hide (he s H C cl fp).pe) hs) fun σ H m ρ S x er hp =>
    comp_read x er (hope_seq hp) fun ys S2 q p vs m2 H2 e x2 hn r => ⟨.lst ys, S2, by unfold lComp; rw [q]; rfl, m2, e.trans (Ext.fresh hn), x2.fresh hn, vr_newLst x2 hn r⟩
theorem pel_lcN (hc : X.calm = true) (hN : X.N.Nodup) (hi : PIL X tg iter li) (ok : BlkOk X.N X.env.scope scope own)
    (hg : ∀ (s : Shared) (H : Hp) (C : Addr) (cl : List (Str × Addr)) (fp : List Addr), PGL (X.blk s H scope (compEnvC scope cl C X.env) fp) tg (own.map (·.2)) g) (ht : ∀ (s : Shared) (H : Hp) (C : Addr) (cl : List (Str × Addr)) (fp : List Addr), PTsL (X.blk s H scope (compEnvC scope cl C X.env) fp) ifs tt)
    (he : ∀ (s : Shared) (H : Hp) (C : Addr) (cl : List (Str × Addr)) (fp : List Addr), PEL (X.blk s H scope (compEnvC scope cl C X.env) fp) elt te) (hs : ∀ x, foldedSetIterable iter X.env x = pure x := by intro _; rfl) :
    PEL X (.ListComp elt [⟨tg, iter, ifs, 0⟩] scope pos) (lCompN li (own.map (·.2)) g tt te) :=
  .of_pe (pe_lc (g := tGL X.K (own.map fun q : Str × Nat => q.2) g) (tt := tHideT (tT0 X.K tt)) (te := tHide (tL0 X.K te)) hc hN hi ok hg (fun s H C cl fp => pts_hide (ht s H C cl fp).pts) (fun s H C cl fp => pe_hide (he s H C cl fp).pe) hs) fun σ H m ρ S x er hp =>
    comp_read x er (hope_seq hp) fun ys S2 q p vs m2 H2 e x2 hn r => ⟨.ref S2.length, S2 ++ [.lst ys], by unfold lCompN; rw [q]; rfl, (qv_newL x2 hn r).left e⟩
/-- name = [..], the name a local -/
theorem psl_setLc {i : Nat} {y : Str} {py spos : Pos} {lv : LE} (hN : X.N.Nodup) (hyl : X.env.scope.names.lookup y = some .local) (hsw : swapsWith (.ListComp elt [⟨tg, iter, ifs, 0⟩] scope pos) (some (.Name y py)) spos.line X.env = pure true) (hc : X.calm = true) (hi : PIL X tg iter li) (ok : BlkOk X.N X.env.scope scope own)
    (hlv : lv = lComp li (own.map (·.2)) g tt te ∨ lv = lCompN li (own.map (·.2)) g tt te)
    (hg : ∀ (s : Shared) (H : Hp) (C : Addr) (cl : List (Str × Addr)) (fp : List Addr), PGL (X.blk s H scope (compEnvC scope cl C X.env) fp) tg (own.map (·.2)) g) (ht : ∀ (s : Shared) (H : Hp) (C : Addr) (cl : List (Str × Addr)) (fp : List Addr), PTsL (X.blk s H scope (compEnvC scope cl C X.env) fp) ifs tt)
    (he : ∀ (s : Shared) (H : Hp) (C : Addr) (cl : List (Str × Addr)) (fp : List Addr), PEL (X.blk s H scope (compEnvC scope cl C X.env) fp) elt te) (hy : X.N[i]? = some y := by rfl) (hs : ∀ x, foldedSetIterable iter X.env x = pure x := by intro _; rfl) :
    PSL X (.Assign [.Name y py] (.ListComp elt [⟨tg, iter, ifs, 0⟩] scope pos) spos) (lSet i lv) := by
  refine ps_imp (ps_setLc (g := tGL X.K (own.map fun q : Str × Nat => q.2) g) (tt := tHideT (tT0 X.K tt)) (te := tHide (tL0 X.K te)) hc hN hy hyl hsw hi ok hg (fun s H C cl fp => pts_hide (ht s H C cl fp).pts) (fun s H C cl fp => pe_hide (he s H C cl fp).pe) hs) fun D σ H ⟨m, ρ, S, x, er, hl, h⟩ => ?_
  have h' : HS X D m H (liftX ρ (lv ρ S) fun d S1 => .ok (.nx (ρ.set i (some d))) S1) := h
  have hp := HS.hope h' er hl x
  have hpc : Hope X σ m H (compL li (own.map (·.2)) g tt te ρ S) := by
    rcases hlv with z | z <;> (rw [z] at hp; exact hope_seq hp)
  refine comp_read x er hpc fun ys S2 q p vs m2 H2 e x2 hn r => ?_
  rcases hlv with z | z
  · have q' : lv ρ S = .ok (.lst ys) S2 := by rw [z]; unfold lComp; rw [q]; rfl
    rw [q'] at h'
    have e' := e.trans (Ext.fresh (o := .lst vs) hn)
    exact h'.nx _ _ rfl _ _ ⟨m2, e', x2.fresh hn, (er.ext e' x.muts).set (vr_newLst x2 hn r), by simp [hl]⟩
  · have q' : lv ρ S = .ok (.ref S2.length) (S2 ++ [.lst ys]) := by rw [z]; unfold lCompN; rw [q]; rfl
    rw [q'] at h'
    obtain ⟨m3, e3, x3, w3⟩ := qv_newL x2 hn r
    have e' := e.trans e3
    exact h'.nx _ _ rfl _ _ ⟨m3, e', x3, (er.ext e' x.muts).set w3, by simp [hl]⟩
end
end MP

namespace MP
open PySem PySem.Spec PyProof.Rows L2

section
variable {K : PySem.W.Frag} {m : List Addr} {H : Hp} {S : Sto}
theorem SR.write (x : SR K m H S) {i : Nat} {a : Addr} {o' : HO} {ob' : O} (hi : m[i]? = some a) (r : Ext m H m (upd H a o') → OR K m (upd H a o') a ob') : Ext m H m (upd H a o') ∧ SR K m (upd H a o') (S.set i ob') := by
  have hm : a ∈ m := List.mem_iff_getElem?.mpr ⟨i, hi⟩
  have e : Ext m H m (upd H a o') := ⟨⟨[], by simp⟩, fun b h => .inl h, fun b u n q => by rw [upd_ne (fun z : b = a => n (by rw [z]; exact hm))]; exact q⟩
  refine ⟨e, x.nd, by simp [x.len], fun j b u h1 h2 => ?_⟩
  by_cases hj : i = j
  · subst hj
    rw [hi] at h1
    cases h1
    have hl : i < S.length := x.len ▸ (List.getElem?_eq_some_iff.mp hi).1
    rw [List.getElem?_set_self hl] at h2
    cases h2
    exact r e
  · rw [List.getElem?_set_ne hj] at h2
    exact (x.at_ j b u h1 h2).ext e x.muts (upd_ne fun z => hj (nodup_get x.nd hi (z ▸ h1)))
theorem VR.ref_at (x : SR K m H S) {v : V} {i : Nat} {ob : O} (r : VR K m H v (.ref i)) (q : S[i]? = some ob) : ∃ a, v = .ref a ∧ m[i]? = some a ∧ OR K m H a ob := by
  cases r with
  | @ref i a h => exact ⟨a, rfl, h, x.at_ i a ob h q⟩
end
def putD (f : Str) (v : D) : List (Str × D) → List (Str × D)
  | [] => [(f, v)]
  | (g, x) :: r => if g = f then (g, v) :: r else (g, x) :: putD f v r
theorem VFs.put {K : PySem.W.Frag} {m : List Addr} {H : Hp} {f : Str} {v : V} {d : D} (h : VR K m H v d) : ∀ {fs : List (Str × V)} {gs : List (Str × D)}, VFs K m H fs gs → VFs K m H (putF f v fs) (putD f d gs)
  | _, _, .nil => .cons h .nil
  | _, _, @VFs.cons _ _ _ g w e vs ds q r => by
    unfold putF putD
    by_cases z : g = f
    · rw [if_pos z, if_pos z]; exact .cons h r
    · rw [if_neg z, if_neg z]; exact .cons q (VFs.put h r)
theorem VFs.length {K : PySem.W.Frag} {m : List Addr} {H : Hp} {fs : List (Str × V)} {gs : List (Str × D)} : VFs K m H fs gs → fs.length = gs.length
  | .nil => rfl
  | .cons _ r => by simp [r.length]
section
variable {X : Cx} {e o i c : Expr} {le lo li : LE} {t : LA} {pos pos' : Pos} {x y f : Str} {C : Addr}
/-- targets = e -/
def lAsg (g : GT) (le : LE) : LS := fun ρ S => liftX ρ (le ρ S) fun d S1 => match g d ρ with
  | some ρ1 => .ok (.nx ρ1) S1
  | none => .bad
theorem psl_asg {tg : Expr} {ix : List Nat} {g : GT} (he : PEL X e le) (hg : PGL X tg ix g) (hs : swapsWithSole [tg] e pos.line X.env = pure false := by rfl) (hw : swappedStores [tg] e X.env = pure none := by rfl)
    (h1 : (assignEach [tg] X.env).map (·.2) = [assign tg X.env] := by rfl) : PSL X (.Assign [tg] e pos) (lAsg g le) := by
  refine ⟨fun pins s σ H D I ⟨m, ρ, S, x, er, hl, h⟩ => ?_⟩
  refine wpAny_Assign_stores (expr_in he I x er hl h fun d S1 q v u s1 H1 m1 I1 rv e1 x1 w er1 h2 => ?_) hs hw
  rw [h1]
  cases hgd : g d ρ with
  | none => rw [hgd] at h2; obtain ⟨fl, S', q⟩ := h2.ok; cases q
  | some ρ1 =>
    rw [hgd] at h2
    exact thn (hg.run pins s1 σ H1 v u (fun σ' H' => D.nx σ' H') I1 rv ⟨m1, H1, ρ, d, ρ1, fun _ _ z => z, w, er1, hl, hgd, fun σ' er' hl' _ _ => h2.nx ρ1 S1 rfl σ' H1 (sv_same x1 er' hl')⟩) fun _ s2 q => q
/-- a, b = e1, e2 with plain local names -/
def tAX (X : Cx) (t : LA) : TA := fun σ H Q => ∃ m ρ S, SR X.K m H S ∧ ER X.K m H σ ρ ∧ Hope X σ m H (t ρ S) ∧ ∀ ds S', t ρ S = .ok ds S' → ∀ vs H' m', Ext m H m' H' → SR X.K m' H' S' → VRs X.K m' H' vs ds → Q vs H'
theorem PAL.pa {es : List Expr} (h : PAL X es t) : PA X es (tAX X t) := ⟨fun pos pins s σ H Q I ⟨m, ρ, S, x, er, hp, k⟩ =>
  thn (h.run pos pins s σ H m ρ S I x er hp) fun us s' ⟨ds, S', vs, H', m', q, I', rv, e', x', w⟩ => ⟨vs, H', I', rv, k ds S' q vs H' m' e' x' w⟩⟩
def lPar (i j : Nat) (t : LA) : LS := fun ρ S => liftX ρ (t ρ S) fun ds S1 => match ds with
  | [a, b] => .ok (.nx ((ρ.set i (some a)).set j (some b))) S1
  | _ => .bad
theorem psl_par {i j : Nat} {a b : Expr} {px py pt : Pos} {kt k2 : Nat} {pt2 : Pos} (hc : X.calm = true) (hN : X.N.Nodup) (ha : PAL X [a, b] t) (hi : X.N[i]? = some x := by rfl) (hj : X.N[j]? = some y := by rfl) (hij : i ≠ j := by decide)
    (hx : X.env.scope.names.lookup x = some .local := by rfl) (hy : X.env.scope.names.lookup y = some .local := by rfl)
    (hw : swappedStores [.Tuple [.Name x px, .Name y py] kt pt] (.Tuple [a, b] k2 pt2) X.env = pure (some [x, y]) := by rfl)
    (hs : swapsWithSole [.Tuple [.Name x px, .Name y py] kt pt] (.Tuple [a, b] k2 pt2) pos.line X.env = pure false := by rfl) :
    PSL X (.Assign [.Tuple [.Name x px, .Name y py] kt pt] (.Tuple [a, b] k2 pt2) pos) (lPar i j t) := by
  refine ps_imp (ps_par hc hN hi hj hij hx hy ha.pa hw hs) fun D σ H ⟨m, ρ, S, x0, er, hl, h⟩ => ?_
  have h' : HS X D m H (liftX ρ (t ρ S) fun ds S1 => match ds with
    | [a, b] => .ok (.nx ((ρ.set i (some a)).set j (some b))) S1
    | _ => .bad) := h
  refine ⟨m, ρ, S, x0, er, HS.hope h' er hl x0, fun ds S1 q vs H1 m1 e1 x1 w => ?_⟩
  rw [q] at h'
  have h2 := HS.ext h' e1
  cases w with
  | nil => obtain ⟨fl, S', q⟩ := h2.ok; cases q
  | cons w1 w2 =>
    cases w2 with
    | nil => obtain ⟨fl, S', q⟩ := h2.ok; cases q
    | cons w2 w3 =>
      cases w3 with
      | cons _ _ => obtain ⟨fl, S', q⟩ := h2.ok; cases q
      | nil =>
        have er1 := er.ext e1 x0.muts
        exact ⟨_, _, rfl, h2.nx _ S1 rfl _ H1 (sv_same x1 ((er1.set w1).set w2) (by simp [hl]))⟩
/-- o.f = e, o an object of the store -/
def stFld (C : Addr) (f : Str) (S : Sto) (r d : D) : Option Sto := match r with
  | .ref i => match S[i]? with
    | some (.ins C' fs) => if C' = C ∧ fs.length < 1000 then some (S.set i (.ins C (putD f d fs))) else none
    | _ => none
  | _ => none
def liftS (o : Option Sto) (ρ : Ev) : R Fl := match o with
  | some S => .ok (.nx ρ) S
  | none => .bad
def lStF (C : Addr) (f : Str) (lo le : LE) : LS := fun ρ S => liftX ρ (le ρ S) fun d S1 => liftX ρ (lo ρ S1) fun r S2 => liftS (stFld C f S2 r d) ρ
theorem psl_fld (cl : Cls X.K C) (na : NoAttr X.K C f) (ho : PEL X o lo) (he : PEL X e le) (hs : swapsWith e (some (.Attribute o f pos')) pos.line X.env = pure false := by rfl) : PSL X (.Assign [.Attribute o f pos'] e pos) (lStF C f lo le) := by
  refine ⟨fun pins s σ H D I ⟨m, ρ, S, x, er, hl, h⟩ => ?_⟩
  refine plainObj_wpAny_Assign_Attribute (expr_in he I x er hl h fun d S1 q v u s1 H1 m1 I1 rv e1 x1 w er1 h1 => expr_in ho I1 x1 er1 hl h1 fun r S2 q2 v2 u2 s2 H2 m2 I2 rv2 e2 x2 w2 er2 h2 => ?_) hs
  cases q3 : stFld C f S2 r d with
  | none => rw [q3] at h2; obtain ⟨fl, S', q⟩ := h2.ok; cases q
  | some S3 =>
    rw [q3] at h2
    unfold stFld at q3
    split at q3
    · rename_i i
      split at q3
      · rename_i C' fs q4
        split at q3
        · rename_i hz
          obtain ⟨hC, hz⟩ := hz
          subst hC
          cases q3
          obtain ⟨a, rfl, ha, orr⟩ := VR.ref_at x2 w2 q4
          obtain rfl : u2 = Value.ref a := rv2
          cases orr with
          | @ins _ dx fs' gs hh rr =>
            refine setattr_ok I2 hh cl na (by rw [rr.length]; exact hz) rv fun s3 I3 => ?_
            obtain ⟨e3, x3⟩ := x2.write (o' := .ins C' dx (putF f v fs')) (ob' := .ins C' (putD f d fs)) ha fun e => .ins upd_same ((rr.put (w.ext e2 x1.muts)).ext e x2.muts)
            exact ⟨σ, _, I3, h2.nx ρ _ rfl σ _ ⟨m2, e3, x3, er2.ext e3 x2.muts, hl⟩⟩
        · cases q3
      · cases q3
    · cases q3
/-- o[i] = e -/
structure PSetL (X : Cx) (g : Sto → D → D → D → Option Sto) : Prop where
  run : ∀ (pins : List (Addr × Obj)) (s : Shared) (σ : L2.St) (H : Hp) (m : List Addr) (S S' : Sto) (o i v : V) (d1 d2 d3 : D) (ov iv u : Value), Inv X pins σ H s → SR X.K m H S → VR X.K m H o d1 → VR X.K m H i d2 → VR X.K m H v d3 → RelV o ov → RelV i iv → RelV v u → g S d1 d2 d3 = some S' →
    wpAny (model X.prog X.w) X.A (setItem ov iv u) (fun _ s' => ∃ H' m', Inv X pins σ H' s' ∧ Ext m H m' H' ∧ SR X.K m' H' S') X.xe s
def stSeq (S : Sto) (r i d : D) : Option Sto := match r, i with
  | .ref j, .int k => match S[j]? with
    | some (.lst xs) => (ixN xs.length k).map fun n => S.set j (.lst (xs.set n d))
    | _ => none
  | _, _ => none
theorem psetl_seq : PSetL X stSeq := ⟨fun pins s σ H m S S' o i v d1 d2 d3 ov iv u I x r1 r2 r3 e1 e2 e3 q => by
  unfold stSeq at q
  split at q
  · rename_i j k
    split at q
    · rename_i xs q1
      cases q2 : ixN xs.length k with
      | none => rw [q2] at q; cases q
      | some n =>
        rw [q2] at q
        cases q
        obtain ⟨a, rfl, ha, orr⟩ := VR.ref_at x r1 q1
        cases r2
        cases orr with
        | @lst vs _ hh rr =>
          obtain ⟨z1, z2⟩ := x.write (o' := .lst (vs.set n v)) (ob' := .lst (xs.set n d3)) ha fun e => .lst upd_same ((rr.set r3 n).ext e x.muts)
          exact thn (set_list pins s σ H _ _ v ov iv u (fun H' => H' = upd H a (.lst (vs.set n v))) I e1 e2 e3 ⟨a, vs, k, n, rfl, rfl, hh, by rw [rr.length]; exact q2, rfl⟩) fun _ s' ⟨H', I', eH⟩ => by
            subst eH
            exact ⟨_, m, I', z1, z2⟩
    · cases q
  · cases q⟩
def lStS (g : Sto → D → D → D → Option Sto) (lo li le : LE) : LS := fun ρ S => liftX ρ (le ρ S) fun d S1 => liftX ρ (lo ρ S1) fun r S2 => liftX ρ (li ρ S2) fun k S3 => liftS (g S3 r k d) ρ
theorem psl_sub {g : Sto → D → D → D → Option Sto} (hg : PSetL X g) (ho : PEL X o lo) (hi : PEL X i li) (he : PEL X e le) (hs : swapsWith e (some (.Subscript o i pos')) pos.line X.env = pure false := by rfl) : PSL X (.Assign [.Subscript o i pos'] e pos) (lStS g lo li le) := by
  refine ⟨fun pins s σ H D I ⟨m, ρ, S, x, er, hl, h⟩ => ?_⟩
  refine wpAny_Assign_Subscript (expr_in he I x er hl h fun d S1 q v u s1 H1 m1 I1 rv e1 x1 w er1 h1 => expr_in ho I1 x1 er1 hl h1 fun r S2 q2 v2 u2 s2 H2 m2 I2 rv2 e2 x2 w2 er2 h2 => expr_in hi I2 x2 er2 hl h2 fun k S3 q3 v3 u3 s3 H3 m3 I3 rv3 e3 x3 w3 er3 h3 => ?_) hs
  cases q4 : g S3 r k d with
  | none => rw [q4] at h3; obtain ⟨fl, S', q⟩ := h3.ok; cases q
  | some S4 =>
    rw [q4] at h3
    exact thn (hg.run pins s3 σ H3 m3 S3 S4 v2 v3 v r k d u2 u3 u I3 x3 (w2.ext e3 x2.muts) w3 ((w.ext e2 x1.muts).ext e3 x2.muts) rv2 rv3 rv q4) fun _ s4 ⟨H4, m4, I4, e4, x4⟩ => ⟨σ, H4, I4, h3.nx ρ S4 rfl σ H4 ⟨m4, e4, x4, er3.ext e4 x3.muts, hl⟩⟩
/-- name op= e -/
def lAug (i : Nat) (g : G2) (le : LE) : LS := fun ρ S => match ρ[i]? with
  | some (some d0) => liftX ρ (le ρ S) fun d S1 => match g S1 d0 d with
    | some r => .ok (.nx (ρ.set i (some r))) S1
    | none => .bad
  | _ => .bad
theorem psl_aug {i : Nat} {op : Operator} {g : G2} (hN : X.N.Nodup) (ho : OpL X (inplaceOp op) g) (he : PEL X e le) (hi : X.N[i]? = some x := by rfl) (hx : Loc X.env.scope x := by first | exact .inl rfl | exact .inr rfl) (hf : X.fn x = true ∨ X.env.scope.names.lookup x = some .local := by first | exact .inl rfl | exact .inr rfl | assumption) :
    PSL X (.AugAssign (.Name x pos') op e pos) (lAug i g le) := by
  refine ⟨fun pins s σ H D I ⟨m, ρ, S, x0, er, hl, h⟩ => ?_⟩
  have h0 : HS X D m H (lAug i g le ρ S) := h
  unfold lAug at h0
  split at h0
  · rename_i d0 q0
    obtain ⟨v, e1, r0⟩ := er.at_ i d0 q0
    obtain ⟨mm, hn, hlk⟩ := I.loc
    have vis : Vis X.env.scope x := by rcases hx with k | k; exact .inl k; exact .inr (.inl k)
    obtain ⟨u, r, l⟩ := hlk i x v hi e1 vis
    refine wpAny_AugAssign_Name ?_
    have go : wpAny (model X.prog X.w) X.A (eval e X.env) (fun w s₂ => wpAny (model X.prog X.w) X.A (inplaceOp op u w) (fun r s₃ => wpAny (model X.prog X.w) X.A (storeName X.env x r) (fun _ => SP X pins D .next) X.xe s₃) X.xe s₂) X.xe s := by
      refine expr_in he I x0 er hl h0 fun d S1 q v2 u2 s1 H1 m1 I1 rv e2 x1 w er1 h1 => ?_
      cases hg : g S1 d0 d with
      | none => rw [hg] at h1; obtain ⟨fl, S', q⟩ := h1.ok; cases q
      | some rd =>
        rw [hg] at h1
        refine thn (ho.run pins s1 σ H1 m1 S1 v v2 d0 d rd u u2 I1 x1 (r0.ext e2 x0.muts) w r rv hg) fun z s2 ⟨v3, H3, m3, I3, rv3, e3, x3, w3⟩ => ?_
        exact store_ok I3 hN hi hx rv3 (fun s4 I4 => ⟨_, H3, I4, h1.nx _ S1 rfl _ H3 ⟨m3, e3, x3, (er1.ext e3 x1.muts).set w3, by simp [hl]⟩⟩) hf
    rcases l with ⟨hk, hm⟩ | ⟨hk, c, hc, hcell⟩
    · exact wpAny_loadName_local I.ok.kind hk hn hm go
    · rcases hk with hk | hk
      · exact wpAny_loadName_cell I.ok.kind hk hc hcell go
      · rcases hx with k | k
        · have : X.env.scope.names.lookup x = some .free := hk
          rw [k] at this; cases this
        · have : X.env.scope.names.lookup x = some .free := hk
          rw [k] at this; cases this
  · obtain ⟨fl, S', q⟩ := h0.ok; cases q
end

/-! ### a def keeps its promise -/
def fin : R Fl → R D
  | .ok (.nx _) S => .ok .non S
  | .ok (.rt d) S => .ok d S
  | .ok (.ex C fs _) S => .exc C fs S
  | _ => .bad
def bodyF (n : Nat) (lb : LS) : F := fun ds S => fin (lb (ds.map some ++ List.replicate (n - ds.length) none) S)
theorem er_start {K : PySem.W.Frag} {m : List Addr} {H : Hp} {vs : List V} {ds : List D} {n : Nat} (r : VRs K m H vs ds) : ER K m H (vs.map some ++ List.replicate (n - vs.length) none) (ds.map some ++ List.replicate (n - ds.length) none) := by
  refine ⟨fun i d h => ?_, by simp [r.length]⟩
  have hi : i < ds.length := by
    by_cases z : i < ds.length
    · exact z
    · rw [List.getElem?_append_right (by simp; omega)] at h
      obtain ⟨_, h2⟩ := List.getElem?_eq_some_iff.mp h
      simp at h2
  rw [List.getElem?_append_left (by simpa using hi), List.getElem?_map] at h
  cases q : ds[i]? with
  | none => rw [q] at h; cases h
  | some d' =>
    rw [q] at h
    cases h
    obtain ⟨v, h1, h2⟩ := r.getr q
    refine ⟨v, ?_, h2⟩
    rw [List.getElem?_append_left (by rw [List.length_map, r.length]; exact hi), List.getElem?_map, h1]
    rfl
/-- as L2.fn_of, with the guards -/
theorem fnG_of {CX : CXT} {P : Program} {w : World} {K : PySem.W.Frag} {mg : Str → Option Value} {base : Heap} {k : Nat} {f : Addr} {name qual : Str} {params : Arguments} {body : List Stmt} {scope : Scope} {dV kV doc pm cdv ct oc : Value} {an od : Option Addr}
    {osl : Array (Option Value)} {N ps : List Str} {sp : Sp} (lk : K.lookup f = some ⟨oc, od, .func (PySem.W.fnOf name qual params body scope dV kV doc pm an cdv ct), osl⟩) (hcd : PySem.W.codeIn K cdv qual = true) (S : FnScope N ps scope)
    (len : ∀ vs H Q E, sp vs H Q E → vs.length = ps.length)
    (hbody : ∀ (A : Around) (outer : List Env) (s : Shared) (H : Hp) (vs : List V) (Q : VK) (E : XK), MP.Room k (A.deeper (envOfC qual scope s.heap.objs.size f cdv)) → sp vs H Q E →
      ∃ t, PSs (cxOf CX P w K mg base N qual scope f cdv A outer s H E) body t ∧ t { nx := fun _ H' => Q .non H', rt := Q } (start N vs) H) :
    MP.FnOk P w K mg base CX (k + 1) f (PySem.W.fnOf name qual params body scope dV kV doc pm an cdv ct) ps sp := by
  refine ⟨len, fun A outer s H args us vs Q E hr e0 hb r hsp => ?_⟩
  have hl := len _ _ _ _ hsp
  have KX : K.In s.heap := e0.mod.kin.keeps fun b o e => (e0.bs b o e).1
  have lim : s.heap.NoLimit := e0.mod.nolimit.keeps fun b o e => (e0.bs b o e).1
  have hkind : ∀ y ∈ ps.zip us, scope.names.lookup y.1 = some .local ∨ (scope.names.lookup y.1 = some .cell ∧ ((cellsFrom (s.heap.objs.size + 1) scope.names []).lookup y.1).isSome = true) := fun ⟨n, v⟩ hy => by
    rcases S.par n (List.of_mem_zip hy).1 with q | q
    · exact .inl q
    · exact .inr ⟨q, PySem.W.cellsFrom_some _ _ _ (.inl q)⟩
  refine codeAny_call_function hr.depth (KX _ _ lk) rfl S.co S.gen rfl (PySem.W.codeRec_of KX hcd) (hb _ _ _ _ ?_)
  refine wpAny_newFunctionEnv_cells S.kind hkind fun env he s1 x => ?_
  subst he
  refine ⟨lim.keeps x.toInCall.keep, codeAny_func ?_⟩
  obtain ⟨t, ht, hq⟩ := hbody A outer s H vs Q E (hr.deeper _) hsp
  have I : Inv (cxOf CX P w K mg base N qual scope f cdv A outer s H E) [] (start N vs) H s1 := inv_start S hr.hd e0 hl r x
  refine wpAny_mono (ht.run [] s1 (start N vs) H _ I hq) (fun fl s' hs => ?_) fun e s' hs => hs
  have fin : ∀ {σ' : L2.St} {H' : Hp} {v : V} {u : Value}, Inv (cxOf CX P w K mg base N qual scope f cdv A outer s H E) [] σ' H' s' → RelV v u → Q v H' → CE outer P w H s Q u s' :=
    fun {σ' H' v u} J rv q => ⟨v, H', J.os, J.bare, J.base, J.hok, rv, q⟩
  cases fl with
  | ret u =>
    obtain ⟨v, σ', H', J, rv, q⟩ := hs
    exact fin J rv q
  | next =>
    obtain ⟨σ', H', J, q⟩ := hs
    exact fin (v := V.non) (u := Value.none) J rfl q
  | brk =>
    obtain ⟨_, _, _, q⟩ := hs
    exact False.elim q
  | cont =>
    obtain ⟨_, _, _, q⟩ := hs
    exact False.elim q
section
variable {P : Program} {w : World} {K : PySem.W.Frag} {mg : Str → Option Value} {base : Heap}
theorem Fun.okG {x qual : Str} {st : Stmt} {f : Addr} {fd : FuncData} {N ps : List Str} {k : Nat} {sp : Sp} (F : Fun K x qual st f fd) (S : FnScope N ps (defScope st)) (len : ∀ vs H Q E, sp vs H Q E → vs.length = ps.length)
    (hbody : ∀ (cdv : Value) (A : Around) (outer : List Env) (s : Shared) (H : Hp) (vs : List V) (Q : VK) (E : XK), MP.Room k (A.deeper (envOfC qual (defScope st) s.heap.objs.size f cdv)) → sp vs H Q E →
      ∃ t, PSs (cxOf (L2.CX P w) P w K mg base N qual (defScope st) f cdv A outer s H E) (defBody st) t ∧ t { nx := fun _ H' => Q .non H', rt := Q } (L2.start N vs) H) : MP.FnOk P w K mg base (L2.CX P w) (k + 1) f fd ps sp := by
  obtain ⟨oc, od, kV, doc, pm, an, cdv, ct, osl, rfl, lk, hcd⟩ := F.ex
  exact fnG_of lk hcd S len fun A outer s H vs Q E hr hsp => hbody cdv A outer s H vs Q E hr hsp
abbrev cxL (P : Program) (w : World) (K : PySem.W.Frag) (mg : Str → Option Value) (base : Heap) (N : List Str) (qual : Str) (sc : Scope) (f : Addr) (cdv : Value) (A : Around) (outer : List Env) (s : Shared) (H : Hp) (E : XK) : Cx := cxOf (L2.CX P w) P w K mg base N qual sc f cdv A outer s H E
theorem Fun.okL {x qual : Str} {st : Stmt} {f : Addr} {fd : FuncData} {N ps : List Str} {k : Nat} {lb : LS} (Fn : Fun K x qual st f fd) (S : FnScope N ps (defScope st))
    (hb : ∀ (cdv : Value) (A : Around) (outer : List Env) (s : Shared) (H : Hp) (E : XK), Room k (A.deeper (envOfC qual (defScope st) s.heap.objs.size f cdv)) → PSsL (cxL P w K mg base N qual (defScope st) f cdv A outer s H E) (defBody st) lb) :
    FnL P w K mg base (k + 1) f fd ps (bodyF N.length lb) := by
  refine Fun.okG Fn S (fun vs H Q E h => h.1) fun cdv A outer s H vs Q E hr h => ⟨_, hb cdv A outer s H E hr, ?_⟩
  obtain ⟨hl, m, S0, ds, x0, r, nb, q1, q2⟩ := h
  refine ⟨m, ds.map some ++ List.replicate (N.length - ds.length) none, S0, x0, ?_, ?_, ?_⟩
  · exact er_start r
  · simp [L2.start, r.length]
  · have hB : ∀ a, bodyF N.length lb ds S0 = a → fin (lb (ds.map some ++ List.replicate (N.length - ds.length) none) S0) = a := fun a h => h
    generalize hA : lb (ds.map some ++ List.replicate (N.length - ds.length) none) S0 = A0 at hB
    have hb0 : bodyF N.length lb ds S0 = fin A0 := by unfold bodyF; rw [hA]
    rw [hb0] at nb q1 q2
    refine ⟨?_, fun ρ' S' e σ' H' ⟨m', e', x', er', _⟩ => ?_, fun d S' e v H' z => ?_, fun ρ' S' e => ?_, fun ρ' S' e => ?_, fun C fs ρ' S' e u s' z => ?_⟩
    · cases A0 with
      | bad => exact absurd rfl nb
      | exc C fs S' => exact absurd rfl nb
      | ok fl S' => exact ⟨fl, S', rfl⟩
    · subst e
      exact q1 .non S' rfl .non H' ⟨m', e', x', .non⟩
    · subst e
      exact q1 d S' rfl v H' z
    · subst e
      exact absurd rfl nb
    · subst e
      exact absurd rfl nb
    · subst e
      refine takes_of (E := E) rfl rfl rfl rfl u s' (XE.imp z fun cls d σ' H' w => ?_)
      obtain ⟨w1, dd, vs', m', w2, w3, w4, w5, w6⟩ := w
      exact q2 C fs S' rfl cls d H' ⟨w1, dd, vs', m', w2, w3, w4, w5, w6.1⟩
end
end MP

namespace MP
open PySem PySem.Spec PyProof.Rows L2

section
variable {X : Cx}
/-! ### ints -/
def gSub : G2 := g2I fun i j => some (.int (i - j))
theorem opl_sub : OpL X (binaryOp .Sub) gSub := opl_int0 op_sub fun i j _ _ _ => .int _
def gMulI : G2 := g2I fun i j => if i.natAbs.log2 + j.natAbs.log2 < 1000000 then some (.int (i * j)) else none
theorem opl_mulI : OpL X (binaryOp .Mult) gMulI := opl_int op_mulW fun i j d e => by
  split at e
  · cases e; exact ⟨‹_›, fun _ _ _ => .int _⟩
  · cases e
def gDiv : G2 := g2I fun i j => if 0 < j ∧ j.natAbs.log2 < 9000 then some (.int (i / j)) else none
theorem opl_div : OpL X (binaryOp .FloorDiv) gDiv := opl_int op_fdivW fun i j d e => by
  split at e
  · cases e; exact ⟨‹_›, fun _ _ _ => .int _⟩
  · cases e
def gMod : G2 := g2I fun i j => if 0 < j then some (.int (i % j)) else none
theorem opl_mod : OpL X (binaryOp .Mod) gMod := opl_int op_mod fun i j d e => by
  split at e
  · cases e; exact ⟨‹_›, fun _ _ _ => .int _⟩
  · cases e
def gPow : G2 := g2I fun i j => if 0 ≤ j ∧ j ≤ 1000000 ∧ i.natAbs < 2 ^ 64 then some (.int (i ^ j.toNat)) else none
theorem opl_pow : OpL X (binaryOp .Pow) gPow := opl_int op_pow fun i j d e => by
  split at e
  · cases e; exact ⟨‹_›, fun _ _ _ => .int _⟩
  · cases e
def gIAdd : G2 := g2I fun i j => some (.int (i + j))
def gISub : G2 := g2I fun i j => some (.int (i - j))
theorem opl_iadd : OpL X (inplaceOp .Add) gIAdd := opl_int0 iop_add fun i j _ _ _ => .int _
theorem opl_isub : OpL X (inplaceOp .Sub) gISub := opl_int0 iop_sub fun i j _ _ _ => .int _
def gLtI : G2 := g2I fun i j => some (.bl (decide (i < j)))
def gLeI : G2 := g2I fun i j => some (.bl (decide (i ≤ j)))
def gGtI : G2 := g2I fun i j => some (.bl (decide (j < i)))
def gGeI : G2 := g2I fun i j => some (.bl (decide (j ≤ i)))
theorem opl_ltI : OpL X (compareOp .Lt) gLtI := opl_int0 op_lt fun i j _ _ _ => .bl _
theorem opl_leI : OpL X (compareOp .LtE) gLeI := opl_int0 op_le fun i j _ _ _ => .bl _
theorem opl_gtI : OpL X (compareOp .Gt) gGtI := opl_int0 op_gt fun i j _ _ _ => .bl _
theorem opl_geI : OpL X (compareOp .GtE) gGeI := opl_int0 op_ge fun i j _ _ _ => .bl _
def gLtS : G2 := g2S fun i j => some (.bl (decide (i.cps.toList < j.cps.toList)))
theorem opl_ltS : OpL X (compareOp .Lt) gLtS := .of op_lt_str fun H m S x y dx dy d q rx ry e => by
  obtain ⟨i, j, e1, e2, e3⟩ := g2S_inv e
  cases e3
  exact ⟨i, j, vw_str rx e1, vw_str ry e2, qv_same q (.bl _)⟩

/-! ### == of data -/
mutual
def toPD : D → Option PyData
  | .non => some .none
  | .bl b => some (.bool b)
  | .int i => some (.int i)
  | .str s => some (.str s)
  | .tup xs => (toPDs xs).map .tuple
  | .ftup xs => (toPDs xs).map .tuple
  | .lst xs => (toPDs xs).map .list
  | _ => none
def toPDs : List D → Option (List PyData)
  | [] => some []
  | x :: xs => (toPD x).bind fun a => (toPDs xs).map fun b => a :: b
end
section
variable {K : PySem.W.Frag} {m : List Addr} {H : Hp}
mutual
theorem VR.dp {v : V} {d : D} {p : PyData} : VR K m H v d → toPD d = some p → Dp K H v p
  | .non, e => by simp only [toPD] at e; cases e; exact .non
  | .bl b, e => by simp only [toPD] at e; cases e; exact .bl b
  | .int b, e => by simp only [toPD] at e; cases e; exact .int b
  | .str b, e => by simp only [toPD] at e; cases e; exact .str b
  | @VR.tup _ _ _ a vs ds h r, e => by
    simp only [toPD] at e
    cases q : toPDs ds with
    | none => rw [q] at e; cases e
    | some ps => rw [q] at e; cases e; exact .tup (SqT.of h) (r.dps q)
  | @VR.ftup _ _ _ a vs ds o hd h r, e => by
    simp only [toPD] at e
    cases q : toPDs ds with
    | none => rw [q] at e; cases e
    | some ps => rw [q] at e; cases e; exact .tup (SqT.rd (.inr ⟨o, h⟩)) (r.dps q)
  | @VR.lst _ _ _ a vs ds n h r, e => by
    simp only [toPD] at e
    cases q : toPDs ds with
    | none => rw [q] at e; cases e
    | some ps => rw [q] at e; cases e; exact .lst (.inl h) (r.dps q)
  | @VR.lstK _ _ _ a vs ds o its n hk h1 h2 h3 h4 h5 r, e => by
    simp only [toPD] at e
    cases q : toPDs ds with
    | none => rw [q] at e; cases e
    | some ps => rw [q] at e; cases e; exact .lst (.inr ⟨o, its, n, hk, h1, h2, h3, h4, h5⟩) (r.dps q)
  | .dct _ _ _, e => by simp only [toPD] at e; cases e
  | .dctT _ _ _, e => by simp only [toPD] at e; cases e
  | .obj _ _ _, e => by simp only [toPD] at e; cases e
  | .exn0 _ _, e => by simp only [toPD] at e; cases e
  | .exnD _ _ _ _ _, e => by simp only [toPD] at e; cases e
  | .ref _, e => by simp only [toPD] at e; cases e
theorem VRs.dps {v : List V} {d : List D} {p : List PyData} : VRs K m H v d → toPDs d = some p → DpAll K H v p
  | .nil, e => by simp only [toPDs] at e; cases e; exact .nil
  | @VRs.cons _ _ _ v d vs ds h r, e => by
    simp only [toPDs] at e
    cases q : toPD d with
    | none => rw [q] at e; cases e
    | some a =>
      rw [q] at e
      cases q2 : toPDs ds with
      | none => rw [q2] at e; cases e
      | some b => rw [q2] at e; cases e; exact .cons (h.dp q) (r.dps q2)
end
/-- a place of the store is read one deep -/
theorem VR.dpv {S : Sto} (x : SR K m H S) {v : V} {d : D} {p : PyData} (r : VR K m H v d) (e : toPD (vw S d) = some p) : Dp K H v p := by
  cases r with
  | @ref i a h =>
    dsimp only [vw] at e
    cases q : S[i]? with
    | none => rw [q] at e; simp only [toPD] at e; cases e
    | some ob =>
      rw [q] at e
      have z := x.at_ i a ob h q
      cases z with
      | @lst vs ds hh rr =>
        simp only [toPD] at e
        cases q2 : toPDs ds with
        | none => rw [q2] at e; cases e
        | some ps => rw [q2] at e; cases e; exact .lst (SqL.of hh) (rr.dps q2)
      | dct _ _ => simp only [toPD] at e; cases e
      | dctT _ _ => simp only [toPD] at e; cases e
      | ins _ _ => simp only [toPD] at e; cases e
  | non => exact VR.dp (m := m) .non e
  | bl b => exact VR.dp (m := m) (.bl b) e
  | int b => exact VR.dp (m := m) (.int b) e
  | str b => exact VR.dp (m := m) (.str b) e
  | tup h r => exact VR.dp (m := m) (.tup h r) e
  | ftup hd h r => exact VR.dp (m := m) (.ftup hd h r) e
  | lst n h r => exact VR.dp (.lst n h r) e
  | lstK hk h1 h2 h3 h4 h5 r => exact VR.dp (m := m) (.lstK hk h1 h2 h3 h4 h5 r) e
  | dct n h r => exact VR.dp (.dct n h r) e
  | dctT n h r => exact VR.dp (.dctT n h r) e
  | obj n h r => exact VR.dp (.obj n h r) e
  | exn0 n h => exact VR.dp (.exn0 n h) e
  | exnD n nd h hd r => exact VR.dp (.exnD n nd h hd r) e
end
/-- plain things that are told apart at once -/
def eqS : D → D → Option Bool
  | .int i, .int j => some (decide (i = j))
  | .str i, .str j => some (decide (i = j))
  | .bl i, .bl j => some (decide (i = j))
  | .non, .non => some true
  | .non, .int _ | .int _, .non | .non, .str _ | .str _, .non | .non, .bl _ | .bl _, .non => some false
  | .int _, .str _ | .str _, .int _ | .bl _, .str _ | .str _, .bl _ => some false
  | _, _ => none
def eqP (S : Sto) (x y : D) : Option Bool := (toPD (vw S x)).bind fun a => (toPD (vw S y)).bind fun b => if SeqAt.shaped a = true ∧ SeqAt.shaped b = true then some (PyData.eqv a b) else none
def eqD (S : Sto) (x y : D) : Option Bool := (eqS x y).or (eqP S x y)
def gEq : G2 := fun S x y => (eqD S x y).map .bl
def gNe : G2 := fun S x y => (eqD S x y).map fun b => .bl (!b)
theorem eqS_rEq {K : PySem.W.Frag} {m : List Addr} {H : Hp} {x y : V} {dx dy : D} {b : Bool} (rx : VR K m H x dx) (ry : VR K m H y dy) (h : eqS dx dy = some b) : scal x y = true ∧ decide (x = y) = b := by
  cases rx <;> cases ry <;> simp only [eqS] at h <;> (try cases h) <;> refine ⟨rfl, ?_⟩ <;> simp
theorem eqP_inv {S : Sto} {x y : D} {b : Bool} (h : eqP S x y = some b) : ∃ p q, toPD (vw S x) = some p ∧ toPD (vw S y) = some q ∧ SeqAt.shaped p = true ∧ SeqAt.shaped q = true ∧ PyData.eqv p q = b := by
  unfold eqP at h
  cases q1 : toPD (vw S x) with
  | none => rw [q1] at h; cases h
  | some p =>
    rw [q1] at h
    cases q2 : toPD (vw S y) with
    | none => rw [q2] at h; cases h
    | some q =>
      rw [q2] at h
      dsimp only [Option.bind] at h
      split at h
      · rename_i z
        cases h
        exact ⟨p, q, rfl, rfl, z.1, z.2, rfl⟩
      · cases h
theorem opl_eq (hu : X.A.units + 64 < cLine) : OpL X (compareOp .Eq) gEq := ⟨fun pins s σ H m S x y dx dy d v u I q rx ry ex ey e => by
  unfold gEq eqD at e
  cases z : eqS dx dy with
  | some b =>
    rw [z] at e
    cases e
    obtain ⟨h1, h2⟩ := eqS_rEq rx ry z
    exact thn (op_eq pins s σ H x y v u _ I ex ey ⟨h1, by rw [h2]; exact qv_same q (.bl b)⟩) fun _ _ z => vp_of z
  | none =>
    rw [z] at e
    cases z2 : eqP S dx dy with
    | none => rw [z2] at e; cases e
    | some b =>
      rw [z2] at e
      cases e
      obtain ⟨p, p', h1, h2, h3, h4, h5⟩ := eqP_inv z2
      exact thn (op_eqD hu pins s σ H x y v u _ I ex ey ⟨p, p', rx.dpv q h1, ry.dpv q h2, h3, h4, by rw [h5]; exact qv_same q (.bl b)⟩) fun _ _ z => vp_of z⟩
theorem opl_ne (hu : X.A.units + 64 < cLine) : OpL X (compareOp .NotEq) gNe := ⟨fun pins s σ H m S x y dx dy d v u I q rx ry ex ey e => by
  unfold gNe eqD at e
  cases z : eqS dx dy with
  | some b =>
    rw [z] at e
    cases e
    obtain ⟨h1, h2⟩ := eqS_rEq rx ry z
    exact thn (op_ne pins s σ H x y v u _ I ex ey ⟨h1, by rw [h2]; exact qv_same q (.bl _)⟩) fun _ _ z => vp_of z
  | none =>
    rw [z] at e
    cases z2 : eqP S dx dy with
    | none => rw [z2] at e; cases e
    | some b =>
      rw [z2] at e
      cases e
      obtain ⟨p, p', h1, h2, h3, h4, h5⟩ := eqP_inv z2
      exact thn (op_neD hu pins s σ H x y v u _ I ex ey ⟨p, p', rx.dpv q h1, ry.dpv q h2, h3, h4, by rw [h5]; exact qv_same q (.bl _)⟩) fun _ _ z => vp_of z⟩
/-- is None -/
def isNonD : D → Bool
  | .non => true
  | _ => false
def gIsN : G2 := fun _ x y => match y with
  | .non => some (.bl (isNonD x))
  | _ => none
def gNotN : G2 := fun _ x y => match y with
  | .non => some (.bl (!isNonD x))
  | _ => none
theorem vr_non {K : PySem.W.Frag} {m : List Addr} {H : Hp} {v : V} {d : D} (r : VR K m H v d) : decide (v = .non) = isNonD d := by
  cases r <;> simp [isNonD]
theorem opl_isN : OpL X (compareOp .Is) gIsN := .of op_isN fun H m S x y dx dy d q rx ry e => by
  unfold gIsN at e
  split at e
  · cases e
    cases ry
    exact ⟨rfl, by rw [vr_non rx]; exact qv_same q (.bl _)⟩
  · cases e
theorem opl_notN : OpL X (compareOp .IsNot) gNotN := .of op_notN fun H m S x y dx dy d q rx ry e => by
  unfold gNotN at e
  split at e
  · cases e
    cases ry
    exact ⟨rfl, by rw [vr_non rx]; exact qv_same q (.bl _)⟩
  · cases e

/-! ### built-ins -/
def gLen : GC := fun S ds => match ds with
  | [d] => match vw S d with
    | .lst xs => some (.int xs.length)
    | .tup xs => some (.int xs.length)
    | .str z => if z.length ≤ sizeLine then some (.int z.length) else none
    | _ => none
  | _ => none
theorem VRs.one {K : PySem.W.Frag} {m : List Addr} {H : Hp} {vs : List V} {d : D} (r : VRs K m H vs [d]) : ∃ v, vs = [v] ∧ VR K m H v d := by
  cases r with
  | cons h r => cases r; exact ⟨_, rfl, h⟩
theorem VRs.two {K : PySem.W.Frag} {m : List Addr} {H : Hp} {vs : List V} {d e : D} (r : VRs K m H vs [d, e]) : ∃ v w, vs = [v, w] ∧ VR K m H v d ∧ VR K m H w e := by
  cases r with
  | cons h r =>
    cases r with
    | cons h' r => cases r; exact ⟨_, _, rfl, h, h'⟩
theorem cl_len : CallL X (.builtin "len") gLen := .of call_len fun H m S xs ds d q r e => by
  unfold gLen at e
  split at e
  · rename_i d0
    obtain ⟨v, rfl, rv⟩ := r.one
    split at e
    · rename_i ys e1
      cases e
      obtain ⟨a, vs, rfl, h1, r1⟩ := vw_lst q rv e1
      exact ⟨_, ys.length, rfl, .inl ⟨vs, h1, r1.length.symm⟩, qv_same q (.int _)⟩
    · rename_i ys e1
      cases e
      obtain ⟨a, vs, rfl, h1, r1⟩ := vw_tup rv e1
      exact ⟨_, ys.length, rfl, .inr ⟨vs, SqT.of h1, r1.length.symm⟩, qv_same q (.int _)⟩
    · rename_i z e1
      split at e
      · cases e
        cases vw_str rv e1
        exact ⟨_, z.length, rfl, ⟨‹_›, rfl⟩, qv_same q (.int _)⟩
      · cases e
    · cases e
  · cases e
def gAbs : GC := fun _ ds => match ds with
  | [.int i] => some (.int (if i < 0 then -i else i))
  | _ => none
theorem cl_abs : CallL X (.builtin "abs") gAbs := .of call_abs fun H m S xs ds d q r e => by
  unfold gAbs at e
  split at e
  · cases e
    obtain ⟨v, rfl, rv⟩ := r.one
    cases rv
    exact ⟨_, rfl, qv_same q (.int _)⟩
  · cases e
def gMin2 : GC := fun _ ds => match ds with
  | [.int i, .int j] => some (.int (if j < i then j else i))
  | _ => none
theorem cl_min2 (hc : X.calm = true) : CallL X (.builtin "min") gMin2 := .of (call_min2 hc) fun H m S xs ds d q r e => by
  unfold gMin2 at e
  split at e
  · cases e
    obtain ⟨v, w, rfl, rv, rw'⟩ := r.two
    cases rv
    cases rw'
    exact ⟨_, _, rfl, qv_same q (.int _)⟩
  · cases e
def gMax2 : GC := fun _ ds => match ds with
  | [.int i, .int j] => some (.int (if j > i then j else i))
  | _ => none
theorem cl_max2 (hc : X.calm = true) : CallL X (.builtin "max") gMax2 := .of (call_max2 hc) fun H m S xs ds d q r e => by
  unfold gMax2 at e
  split at e
  · cases e
    obtain ⟨v, w, rfl, rv, rw'⟩ := r.two
    cases rv
    cases rw'
    exact ⟨_, _, rfl, qv_same q (.int _)⟩
  · cases e
def blsOf : List D → Option (List Bool)
  | [] => some []
  | .bl b :: r => (blsOf r).map fun bs => b :: bs
  | _ => none
theorem vrs_bls {K : PySem.W.Frag} {m : List Addr} {H : Hp} : ∀ {vs : List V} {ds : List D} {bs : List Bool}, VRs K m H vs ds → blsOf ds = some bs → vs = bs.map V.bl
  | _, _, bs, .nil, e => by simp only [blsOf] at e; cases e; rfl
  | _, _, bs, @VRs.cons _ _ _ v d vs ds h r, e => by
    cases h with
    | bl b =>
      simp only [blsOf] at e
      cases q : blsOf ds with
      | none => rw [q] at e; cases e
      | some cs => rw [q] at e; cases e; rw [vrs_bls r q]; rfl
    | _ => simp only [blsOf] at e; cases e
def gAll : GC := fun S ds => match ds with
  | [d] => match vw S d with
    | .lst xs => (blsOf xs).map fun bs => .bl (bs.all id)
    | _ => none
  | _ => none
def gAny : GC := fun S ds => match ds with
  | [d] => match vw S d with
    | .lst xs => (blsOf xs).map fun bs => .bl (bs.any id)
    | _ => none
  | _ => none
theorem cl_all (hc : X.calm = true) : CallL X (.builtin "all") gAll := .of (cr_all hc) fun H m S xs ds d q r e => by
  unfold gAll at e
  split at e
  · obtain ⟨v, rfl, rv⟩ := r.one
    split at e
    · rename_i ys e1
      obtain ⟨a, vs, rfl, h1, r1⟩ := vw_lst q rv e1
      cases q2 : blsOf ys with
      | none => rw [q2] at e; cases e
      | some bs =>
        rw [q2] at e
        cases e
        exact ⟨a, bs, rfl, by rw [← vrs_bls r1 q2]; exact h1, qv_same q (.bl _)⟩
    · cases e
  · cases e
theorem cl_any (hc : X.calm = true) : CallL X (.builtin "any") gAny := .of (cr_any hc) fun H m S xs ds d q r e => by
  unfold gAny at e
  split at e
  · obtain ⟨v, rfl, rv⟩ := r.one
    split at e
    · rename_i ys e1
      obtain ⟨a, vs, rfl, h1, r1⟩ := vw_lst q rv e1
      cases q2 : blsOf ys with
      | none => rw [q2] at e; cases e
      | some bs =>
        rw [q2] at e
        cases e
        exact ⟨a, bs, rfl, by rw [← vrs_bls r1 q2]; exact h1, qv_same q (.bl _)⟩
    · cases e
  · cases e
def gTuple : GC := fun S ds => match ds with
  | [d] => match vw S d with
    | .lst xs => some (.tup xs)
    | .tup xs => some (.tup xs)
    | _ => none
  | _ => none
theorem cl_tuple : CallL X (.type "tuple") gTuple := .of call_tuple_of fun H m S xs ds d q r e => by
  unfold gTuple at e
  split at e
  · obtain ⟨v, rfl, rv⟩ := r.one
    split at e
    · rename_i ys e1
      cases e
      obtain ⟨a, vs, rfl, h1, r1⟩ := vw_lst q rv e1
      exact ⟨a, vs, rfl, .inl ⟨h1, fun l hl => qv_new q hl (vr_newTup q hl r1)⟩⟩
    · rename_i ys e1
      cases e
      obtain ⟨a, vs, rfl, h1, r1⟩ := vw_tup rv e1
      exact ⟨a, vs, rfl, .inr ⟨SqT.of h1, qv_same q (.tup h1 r1)⟩⟩
    · cases e
  · cases e
def gList : GC := fun S ds => match ds with
  | [d] => match vw S d with
    | .lst xs => some (.lst xs)
    | .tup xs => some (.lst xs)
    | _ => none
  | _ => none
theorem cl_list : CallL X (.type "list") gList := .of call_list_of fun H m S xs ds d q r e => by
  unfold gList at e
  split at e
  · obtain ⟨v, rfl, rv⟩ := r.one
    split at e
    · rename_i ys e1
      cases e
      obtain ⟨a, vs, rfl, h1, r1⟩ := vw_lst q rv e1
      exact ⟨a, vs, rfl, .inl h1, fun l hl => qv_new q hl (vr_newLst q hl r1)⟩
    · rename_i ys e1
      cases e
      obtain ⟨a, vs, rfl, h1, r1⟩ := vw_tup rv e1
      exact ⟨a, vs, rfl, .inr (SqT.of h1), fun l hl => qv_new q hl (vr_newLst q hl r1)⟩
    · cases e
  · cases e
/-- str of an int, of a text -/
def gStr : GC := fun _ ds => match ds with
  | [.int i] => if i.natAbs.log2 < 1920 then some (.str (toString i)) else none
  | [.str z] => some (.str z)
  | _ => none
theorem cl_str : CallL X (.type "str") gStr := ⟨fun pins s σ H m S xs ds d us I q r rv e => by
  unfold gStr at e
  split at e
  · split at e
    · cases e
      obtain ⟨v, rfl, rv1⟩ := r.one
      cases rv1
      exact thn (call_str_int pins s σ H _ us _ I rv ⟨_, rfl, ‹_›, qv_same q (.str _)⟩) fun _ _ z => vp_of z
    · cases e
  · cases e
    obtain ⟨v, rfl, rv1⟩ := r.one
    cases rv1
    exact thn (SkE.call_str_str pins s σ H _ us _ I rv ⟨_, rfl, qv_same q (.str _)⟩) fun _ _ z => vp_of z
  · cases e⟩
/-- repr of an int, a truth -/
def gRepr : GC := fun _ ds => match ds with
  | [.int i] => if i.natAbs.log2 < 1920 then some (.str (toString i)) else none
  | [.bl b] => some (.str (if b then "True" else "False"))
  | _ => none
theorem cl_repr : CallL X (.builtin "repr") gRepr := ⟨fun pins s σ H m S xs ds d us I q r rv e => by
  unfold gRepr at e
  split at e
  · split at e
    · cases e
      obtain ⟨v, rfl, rv1⟩ := r.one
      cases rv1
      exact thn (SkE.call_repr_int pins s σ H _ us _ I rv ⟨_, rfl, ‹_›, qv_same q (.str _)⟩) fun _ _ z => vp_of z
    · cases e
  · cases e
    obtain ⟨v, rfl, rv1⟩ := r.one
    cases rv1
    obtain ⟨u, rfl, ru⟩ := vals1 rv
    cases ru
    exact PySem.P.repr_of_bool ⟨.str _, H, m, I.tok _, ⟨_, rfl⟩, Ext.refl, q, .str _⟩
  · cases e⟩
end
end MP

namespace MP
open PySem PySem.Spec PyProof.Rows L2

/-! ### what a thing is -/
inductive Tg where
  | non | bl | int | str | tup | lst | dct | obj (C : Addr)
  deriving DecidableEq
def tyG : Tg → Value
  | .non => .type "NoneType"
  | .bl => .type "bool"
  | .int => .type "int"
  | .str => .type "str"
  | .tup => .type "tuple"
  | .lst => .type "list"
  | .dct => .type "dict"
  | .obj C => .ref C
def tgD : D → Option Tg
  | .non => some .non
  | .bl _ => some .bl
  | .int _ => some .int
  | .str _ => some .str
  | .tup _ => some .tup
  | .ftup _ => some .tup
  | .lst _ => some .lst
  | .dct _ _ => some .dct
  | .obj C _ => some (.obj C)
  | .exn _ _ => none
  | .ref _ => none
structure OwnOk (K : PySem.W.Frag) (C : Addr) : Prop where
  cl : Cls K C
  ha : PySem.W.findIn K (.ref C) "__class__" = some (some (.builtin "object.__class__"))
  hn : PySem.W.specialIn K (.builtin "object.__class__") "__get__" = some (some (.builtin "getset_descriptor.__get__"))
  htk : PySem.W.takesIn K (.builtin "object.__class__") = some true
  hm : PySem.W.mroIn K C (.type "object") = some true
section
variable {X : Cx} {pins : List (Addr × Obj)} {σ : L2.St} {H : Hp} {s : Shared} {m : List Addr} {S : Sto}
/-- what the library's rules ask of a value of that type -/
def Kit (K : PySem.W.Frag) (s : Shared) (u t : Value) : Prop := ∃ P : Heap → Prop, PySem.W.KitX K u t P ∧ P s.heap ∧ u ≠ .builtin "__main__.__loader__#opaque"
theorem kit_tyx {v : V} {u t : Value} (I : Inv X pins σ H s) (r : RelV v u) (h : TyX X.K H v t) : Kit X.K s u t := kit_of I r h
theorem kit_dct {a : Addr} {ob : HO} (I : Inv X pins σ H s) (h : H a = some ob) (hd : ∃ o, s.heap.get? a = some o ∧ o.cls = .type "dict") : Kit X.K s (.ref a) (.type "dict") := by
  obtain ⟨o, h1, h2⟩ := hd
  exact ⟨_, PySem.W.kitx_dict, ⟨o, h1, h2⟩, fun z => nomatch z⟩
theorem kit_rd {a : Addr} {kvs : List (Key × V)} (I : Inv X pins σ H s) (h : Rd H a (.dK kvs)) : Kit X.K s (.ref a) (.type "dict") := by
  rcases h with h | ⟨ob, h⟩
  · exact kit_of I (x := .ref a) rfl (.base (.dK h))
  · exact kit_of I (x := .ref a) rfl (.fDict h)
theorem kit_rdT {a : Addr} {kvs : List (List Key × V)} (I : Inv X pins σ H s) (h : Rd H a (.dT kvs)) : Kit X.K s (.ref a) (.type "dict") := by
  rcases h with h | ⟨ob, h⟩
  · exact kit_of I (x := .ref a) rfl (.base (.dT h))
  · obtain ⟨_, _, _, vs, _, o, es, ep, h1, h2, _⟩ := (show ObjOk X.prog X.w H s.heap a (.frz ob (.dT kvs)) from I.hok a _ h)
    exact ⟨_, PySem.W.kitx_dict, ⟨o, h1, h2.1⟩, fun z => nomatch z⟩
theorem kit_lst {a : Addr} {xs : List V} (I : Inv X pins σ H s) (h : Rd H a (.lst xs)) : Kit X.K s (.ref a) (.type "list") := by
  rcases h with h | ⟨ob, h⟩
  · exact kit_of I (x := .ref a) rfl (.base (.lst h))
  · exact kit_of I (x := .ref a) rfl (.base (.frz h))
theorem kit_d {v : V} {u : Value} {d : D} {t : Tg} (I : Inv X pins σ H s) (x : SR X.K m H S) (r : RelV v u) (w : VR X.K m H v d) (ht : tgD (vw S d) = some t) (ho : ∀ C, t = .obj C → OwnOk X.K C) : Kit X.K s u (tyG t) := by
  cases w with
  | non => cases ht; exact kit_of I r (.base .non)
  | bl b => cases ht; exact kit_of I r (.base (.bl b))
  | int b => cases ht; exact kit_of I r (.base (.int b))
  | str b => cases ht; exact kit_of I r (.base (.str b))
  | tup h _ => cases ht; exact kit_of I r (.base (.tup h))
  | ftup _ h _ => cases ht; exact kit_of I r (.fTuple h)
  | lst n h _ => cases ht; cases r; exact kit_lst I h
  | lstK hk h1 h2 h3 h4 h5 _ => cases ht; exact kit_of I r (.kList hk h1)
  | dct n h _ => cases ht; cases r; exact kit_rd I (.inl h)
  | dctT n h _ => cases ht; cases r; exact kit_rdT I (.inl h)
  | @obj a C dx fs gs n h _ =>
    cases ht
    have o := ho C rfl
    exact kit_of I r (.base (.ins h o.cl o.ha o.hn o.htk o.hm))
  | exn0 n h => cases ht
  | exnD n nd h hd _ => cases ht
  | @ref i a h =>
    dsimp only [vw] at ht
    cases q : S[i]? with
    | none => rw [q] at ht; cases ht
    | some ob =>
      rw [q] at ht
      cases r
      cases x.at_ i a ob h q with
      | lst h _ => cases ht; exact kit_lst I (.inl h)
      | dct h _ => cases ht; exact kit_rd I (.inl h)
      | dctT h _ => cases ht; exact kit_rdT I (.inl h)
      | @ins C dx fs gs h _ =>
        cases ht
        have o := ho C rfl
        exact kit_of I (x := .ref a) rfl (.base (.ins h o.cl o.ha o.hn o.htk o.hm))
end

/-! ### isinstance -/
abbrev Tab := Tg → Option Bool
structure IsiOk (K : PySem.W.Frag) (c : Value) (tab : Tab) : Prop where
  one : ∀ t b, tab t = some b → PySem.W.kitOne K (tyG t) c = some b ∧ ∀ C, t = .obj C → OwnOk K C
section
variable {X : Cx} {e ce : Expr} {pos p : Pos} {l : LE} {cv : Value} {cw : V} {tab : Tab}
def gIsi (tab : Tab) (S : Sto) (d : D) : Option D := ((tgD (vw S d)).bind tab).map .bl
def lIsi (tab : Tab) (l : LE) : LE := fun ρ S => (l ρ S).bind fun d S1 => lift1 (gIsi tab S1 d) S1
theorem pel_isi (hg : Gl X "isinstance") (hm : X.mg "isinstance" = none) (he : PEL X e l) (hc : PE X ce (tC cw)) (hcv : ClsV cw cv) (ok : IsiOk X.K cv tab)
    (hs : starEach [e, ce] X.env = (false, eval e X.env) :: starEach [ce] X.env := by rfl) (hs2 : starEach [ce] X.env = (false, eval ce X.env) :: starEach [] X.env := by rfl)
    (hpl : (backTo pos (starEach [ce] X.env)).any (·.1) = false := by rfl) : PEL X (.Call (.Name "isinstance" p) [e, ce] [] pos) (lIsi tab l) := by
  refine ⟨fun pins s σ H m ρ S I x r hp => ?_⟩
  refine wpAny_Call_Name_kw (ld_blt I hg hm (u := .builtin "isinstance") (by decide +kernel) ?_ (by decide) (by decide))
  refine PyProof.Rows.callWith_builtin1 ?_ hs hpl
  rw [hs]
  show wpAny _ _ (spliced ((false, eval e X.env) :: backTo pos (starEach [ce] X.env))) _ _ s
  refine Calls.spliced_cons (run_seq he I x r hp fun d S1 q1 v u s1 H1 m1 I1 rv e1 x1 w1 r1 hp1 => ?_)
  rw [hs2]
  show wpAny _ _ (spliced ((false, eval ce X.env) :: backTo pos (starEach [] X.env))) _ _ s1
  refine Calls.spliced_cons (thn (hc.run pins s1 σ H1 (fun v' H' => v' = cw ∧ H' = H1) I1 ⟨rfl, rfl⟩) fun u2 s2 ⟨v2, H2, I2, rv2, ev, eH⟩ => ?_)
  subst ev
  subst eH
  refine Calls.spliced_nil ?_
  cases q2 : gIsi tab S1 d with
  | none => rw [q2] at hp1; exact absurd rfl hp1.1
  | some d' =>
    have e0 : lIsi tab l ρ S = .ok d' S1 := by unfold lIsi; rw [q1, bind_ok, q2]; rfl
    rw [e0]
    unfold gIsi at q2
    cases qt : tgD (vw S1 d) with
    | none => rw [qt] at q2; cases q2
    | some t =>
      rw [qt] at q2
      cases qb : tab t with
      | none => rw [show (some t).bind tab = tab t from rfl, qb] at q2; cases q2
      | some b =>
        rw [show (some t).bind tab = tab t from rfl, qb] at q2
        cases q2
        obtain ⟨k1, k2⟩ := ok.one t b qb
        obtain ⟨P, Z, pp, hx⟩ := kit_d I2 x1 rv w1 qt k2
        have ec := hcv.eq rv2
        subst ec
        exact PySem.W.kia_one Z I2.kIn pp k1 hx fun tk => ⟨_, S1, rfl, .bl b, H2, m1, I2.tok tk, rfl, e1, x1, .bl b⟩
end

/-! ### own special methods -/
/-- somewhere below the running body, with room -/
structure SubA (X : Cx) (n : Nat) (A : Around) : Prop where
  room : Room n A
  fr : A.frames = X.A.frames
theorem SubA.in1 {X : Cx} {n : Nat} {A : Around} (s : SubA X (n + 1) A) : SubA X n A.in1 := ⟨s.room.in1, s.fr⟩
theorem SubA.mono {X : Cx} {n m : Nat} {A : Around} (s : SubA X n A) (h : m ≤ n) : SubA X m A := ⟨s.room.mono h, s.fr⟩
theorem SubA.self {X : Cx} {k : Nat} (h : Room k X.A) : SubA X k X.A := ⟨h, rfl⟩
def F1 (gp : Sto → D → Option D) : F := fun ds S => match ds with
  | [x] => lift1 (gp S x) S
  | _ => .bad
def F2 (gp : G2) : F := fun ds S => match ds with
  | [x, y] => lift1 (gp S x y) S
  | _ => .bad
section
variable {X : Cx} {pins : List (Addr × Obj)} {σ : L2.St} {H : Hp} {s : Shared} {m : List Addr} {S S' : Sto} {k : Nat} {f C : Addr} {fd : FuncData} {ps : List Str} {g : F} {vs : List V} {us : List Value} {ds : List D} {d : D}
theorem run_pure {A' : Around} {Ex : Value → Shared → Prop} (sb : SubA X k A') (Fn : FnL X.prog X.w X.K X.mg X.base k f fd ps g) (hb : Binds X.K fd ps []) (I : Inv X pins σ H s) (x : SR X.K m H S) (r : Vals vs us) (rd : VRs X.K m H vs ds) (hl : vs.length = ps.length) (hg : g ds S = .ok d S') :
    wpAny (model X.prog X.w) A' (call (.ref f) us) (VP X pins σ m H d S') Ex s := by
  have e0 : Env0 X.prog X.w X.K X.mg X.base A' X.stack s H := by
    have e := I.env0
    exact ⟨by rw [sb.fr]; exact e.frames, e.mod, e.bs, e.bsz, e.funs, e.frf, e.hok, e.bare⟩
  have hsp : spL X.K g ps.length vs H (fun v H' => QV X.K m H S' d v H') (fun _ _ _ => False) := by
    refine ⟨hl, m, S, ds, x, rd, fun z => ?_, fun d2 S2 q v H' z => ?_, fun C fs S2 q => ?_⟩
    · rw [hg] at z; cases z
    · rw [hg] at q; cases q; exact z
    · rw [hg] at q; cases q
  have hl2 : (us ++ ([] : List Value)).length = ps.length := by rw [List.append_nil, ← r.length]; exact hl
  have hb' := hb s us I.kIn hl2
  rw [List.append_nil] at hb'
  refine wpAny_call (codeAny_mono (Fn.run A' X.stack s H ⟨us, []⟩ us vs _ _ sb.room e0 hb' r hsp) fun r s' hq => ?_)
  cases r with
  | error e => obtain ⟨_, _, _, _, _, _, _, _, _, _, _, _, hq⟩ := hq; exact hq.elim
  | ok fl =>
    cases fl with
    | ret w =>
      obtain ⟨z, H', I', rz, m', e, x', w'⟩ := I.after hq
      exact ⟨z, H', m', I', rz, e, x', w'⟩
    | next => exact False.elim hq
    | brk => exact False.elim hq
    | cont => exact False.elim hq

/-- == by an own __eq__; the other one may be of the types ts -/
def gOwnEq (C : Addr) (ts : List Tg) (gp : G2) : G2 := fun S x y => match vw S x with
  | .obj C' _ => if C' = C then (match tgD (vw S y) with
    | some t => if t ∈ ts then gp S x y else none
    | none => none) else none
  | _ => none
theorem gOwnEq_inv {ts : List Tg} {gp : G2} {x y d : D} (h : gOwnEq C ts gp S x y = some d) : ∃ fs t, vw S x = .obj C fs ∧ tgD (vw S y) = some t ∧ t ∈ ts ∧ gp S x y = some d := by
  unfold gOwnEq at h
  split at h
  · rename_i C' fs q
    split at h
    · rename_i hc
      subst hc
      split at h
      · rename_i t qt
        split at h
        · exact ⟨fs, t, q, qt, ‹_›, h⟩
        · cases h
      · cases h
    · cases h
  · cases h
structure EqM (X : Cx) (C : Addr) (ts : List Tg) (gp : G2) : Prop where
  ex : ∃ (k : Nat) (f : Addr) (fd : FuncData) (ps : List Str), FnL X.prog X.w X.K X.mg X.base k f fd ps (F2 gp) ∧ Room (k + 2) X.A ∧ Binds X.K fd ps [] ∧ ps.length = 2 ∧ PySem.W.findIn X.K (.ref C) "__eq__" = some (some (.ref f)) ∧ PySem.W.isFn X.K (.ref f) = true
  fst : ∀ t ∈ ts, PySem.W.notFirst X.K C (tyG t) = true ∧ ∀ C', t = .obj C' → OwnOk X.K C'
theorem opl_ownEq {ts : List Tg} {gp : G2} (E : EqM X C ts gp) : OpL X (compareOp .Eq) (gOwnEq C ts gp) := ⟨fun pins s σ H m S x y dx dy d v u I q rx ry ex ey e => by
  obtain ⟨k, f, fd, ps, Fn, hr, hb, hl, hs, hf⟩ := E.ex
  obtain ⟨fs, t, h1, h2, h3, h4⟩ := gOwnEq_inv e
  obtain ⟨n1, n2⟩ := E.fst t h3
  obtain ⟨a, dx', fs', rfl, ha, _⟩ := vw_obj q rx h1
  cases ex
  obtain ⟨mA, J, _⟩ := ins_get I.hok ha
  obtain ⟨od, J, _⟩ := J.look
  obtain ⟨mm, hF⟩ := I.fr
  obtain ⟨P, Z, pp, _⟩ := kit_d I q ey ry h2 n2
  show wpAny _ _ (richCompare .Eq _ _) _ _ _
  refine PySem.W.cmp_K (op := .Eq) (tb := tyG t) (SubA.self hr).room.units0 hF I.ok.mod.kin J (Z.ty _ _ I.kIn pp) n1 hs hf ?_
  refine wpAny_mono (run_pure (vs := [.ref a, y]) (us := [.ref a, u]) (SubA.self (hr.mono (by omega))) Fn hb I q (.cons rfl (.cons ey .nil)) (.cons rx (.cons ry .nil)) (by rw [hl]; rfl) (show F2 gp [dx, dy] S = .ok d S from by simp only [F2]; rw [h4]; rfl)) (fun w s' z => ?_) fun _ _ z => z
  obtain ⟨vv, H', m', I', rv, e', x', w'⟩ := z
  have : w ≠ .notImplemented := fun zz => by
    subst zz
    cases w' <;> first | (cases rv; done) | (obtain ⟨_, rv⟩ := rv; cases rv)
  show PySem.W.CmpBack _ w s'
  unfold PySem.W.CmpBack
  split
  · exact absurd rfl this
  · exact ⟨vv, H', m', I', rv, e', x', w'⟩⟩
end
/-! ### != by object.__ne__ -/
section
variable {prog : Program} {w : World} {K : PySem.W.Frag} {h₀ : Heap} {L m : List Addr} {A : Around} {E : Value → Shared → Prop} {s : Shared} {x f C : Addr} {ox : Obj} {od : Option Obj}
theorem ifBound_bi {M : Model} {name : Str} {id : String} {args : List Value} {Q : Option Value → Shared → Prop} (X : K.In s.heap) (I : PySem.W.InstAt s.heap x ox C od) (hs : PySem.W.findIn K (.ref C) name = some (some (.builtin id)))
    (hb : ∀ self, bindSpecial (.builtin id) self = pure (.builtin id, [self])) (h : wpAny M A (call (.builtin id) (.ref x :: args)) (fun v => Q (some v)) E s) : wpAny M A (callSpecialIfBound? (.ref x) name args) Q E s := by
  simp only [callSpecialIfBound?, bindSpecialIfBound?]
  refine wpAny_holding (wpAny_bind (wpAny_bind (wpAny_bind (I.type.here ((PySem.W.looks_findIn X hs).here ?_)))))
  refine wpAny_bind (wpAny_askSetting (wpAny_ite ?_))
  have fin : wpAny M A (call (.builtin id) ([.ref x] ++ args) >>= fun v => pure (some v)) Q E s := wpAny_bind (wpAny_mono h (fun v s' h' => wpAny_pure h') fun _ _ h' => h')
  split
  · exact wpAny_bind ((PySem.W.Looks.of_pure (hb _)).here (wpAny_pure (by exact fin)))
  · exact wpAny_tryCatch (wpAny_bind ((PySem.W.Looks.of_pure (hb _)).here (wpAny_pure (by exact fin))))
open Builtin in
theorem ne_entry {b : Value} {Q : Fin → Shared → Prop} (hu : A.units < cLine) (X : K.In s.heap) (I : PySem.W.InstAt s.heap x ox C od) (hs : PySem.W.findIn K (.ref C) "__eq__" = some (some (.ref f))) (hf : PySem.W.isFn K (.ref f) = true)
    (h : wpAny (model prog w) A (call (.ref f) [.ref x, b]) (fun v s' => ∃ b, v = .bool b ∧ Q (.done (.ret (.bool (!b)))) s') E s) :
    wpAny (model prog w) A (Builtin.«object.__ne__» ⟨[.ref x, b], []⟩) Q E s := by
  unfold Builtin.«object.__ne__»
  repeat (first
    | with_reducible refine wpAny_cRoomFor hu ?_
    | (refine wpAny_bind (m := callSpecialIfBound? (.ref x) (Str.ofString "__eq__") [b])
        (PySem.W.ifBound_K X I hs hf (wpAny_mono h (fun r s' hr => by
          obtain ⟨b, rfl, hq⟩ := hr
          repeat (first | exact hq | exact wpAny_pure hq | exact wpAny_truthy_bool hq | (refine wpAny_bind (m := truthy (.bool _)) (wpAny_truthy_bool ?_)) | wp_step)) fun _ _ e => e)))
    | wp_step)
theorem ne_K {b tb : Value} {Q : Value → Shared → Prop} (hu : A.units + 1 < cLine) (X : K.In s.heap) (I : PySem.W.InstAt s.heap x ox C od) (hb : PySem.W.Looks (model prog w) s.heap (typeOf b) tb) (hn : PySem.W.notFirst K C tb = true)
    (hne : PySem.W.findIn K (.ref C) "__ne__" = some (some (.builtin "object.__ne__"))) (hm : PySem.W.mroIn K C (.type "object") = some true) (hs : PySem.W.findIn K (.ref C) "__eq__" = some (some (.ref f))) (hf : PySem.W.isFn K (.ref f) = true)
    (h : wpAny (model prog w) A.in1 (call (.ref f) [.ref x, b]) (fun v s' => ∃ b, v = .bool b ∧ Q (.bool (!b)) s') E s) : wpAny (model prog w) A (richCompare .NotEq (.ref x) b) Q E s := by
  have one : wpAny (model prog w) A (tryCompare (.ref x) (cmpInfo .NotEq).2.1 b) (fun r s' => ∃ v, r = some v ∧ Q v s') E s := by
    unfold tryCompare
    refine wpAny_bind (ifBound_bi X I hne PySem.F.slot_object_ne.bind (wpAny_call (codeAny_call_builtin PySem.F.slot_object_ne.plain PySem.F.cmpEntry_ne (PySem.W.check_slot (i := "object.__ne__") (owner := "object") (n := "__ne__") PySem.F.cmpKind_ne PySem.F.cmpSplit_ne (I.type.andThen (PySem.W.looks_mroIn X hm)) (PySem.F.cmpArgs_ne _ _)
      (ne_entry (A := A.in1) hu X I hs hf (wpAny_mono h (fun v s' hv => ?_) fun _ _ e => e))))))
    obtain ⟨b, rfl, hq⟩ := hv
    first | exact ⟨b, rfl, wpAny_pure ⟨_, rfl, hq⟩⟩ | exact ⟨b, rfl, wpAny_pure (wpAny_pure ⟨_, rfl, hq⟩)⟩ | exact ⟨b, rfl, ⟨_, rfl, hq⟩⟩
  unfold richCompare
  simp only [oneThing_ref]
  refine wpAny_holding (wpAny_bind (wpAny_cRoomFor (by omega) ?_))
  refine wpAny_bind (I.type.here (wpAny_bind (hb.here ?_)))
  split
  · rename_i q
    have e : PySem.W.subIn K tb (.ref C) = some false := by
      rcases Bool.or_eq_true_iff.mp hn with e | e
      · rw [beq_iff_eq.mp e] at q; simp at q
      · exact beq_iff_eq.mp e
    refine wpAny_bind ((PySem.W.looks_subIn X e).here ?_)
    simp only [Bool.false_eq_true, if_false]
    refine wpAny_bind (wpAny_mono one (fun r s' z => ?_) fun _ _ e => e)
    obtain ⟨v, rfl, hq⟩ := z
    exact wpAny_pure hq
  · refine wpAny_bind (wpAny_pure ?_)
    simp only [Bool.false_eq_true, if_false]
    refine wpAny_bind (wpAny_mono one (fun r s' z => ?_) fun _ _ e => e)
    obtain ⟨v, rfl, hq⟩ := z
    exact wpAny_pure hq
end
end MP

namespace MP
open PySem PySem.Spec PyProof.Rows L2

section
variable {X : Cx} {C : Addr}
/-- != by an own __eq__ and object.__ne__ -/
def gOwnNe (C : Addr) (ts : List Tg) (gp : G2) : G2 := fun S x y => (gOwnEq C ts gp S x y).bind fun d => match d with
  | .bl b => some (.bl (!b))
  | _ => none
theorem opl_ownNe {ts : List Tg} {gp : G2} (E : EqM X C ts gp) (hne : PySem.W.findIn X.K (.ref C) "__ne__" = some (some (.builtin "object.__ne__"))) (hm : PySem.W.mroIn X.K C (.type "object") = some true) : OpL X (compareOp .NotEq) (gOwnNe C ts gp) := ⟨fun pins s σ H m S x y dx dy d v u I q rx ry ex ey e => by
  obtain ⟨k, f, fd, ps, Fn, hr, hb, hl, hs, hf⟩ := E.ex
  unfold gOwnNe at e
  cases e1 : gOwnEq C ts gp S dx dy with
  | none => rw [e1] at e; cases e
  | some d1 =>
    rw [e1] at e
    dsimp only [Option.bind] at e
    split at e
    · rename_i b
      cases e
      obtain ⟨fs, t, h1, h2, h3, h4⟩ := gOwnEq_inv e1
      obtain ⟨n1, n2⟩ := E.fst t h3
      obtain ⟨a, dx', fs', rfl, ha, _⟩ := vw_obj q rx h1
      cases ex
      obtain ⟨mA, J, _⟩ := ins_get I.hok ha
      obtain ⟨od, J, _⟩ := J.look
      obtain ⟨P, Z, pp, _⟩ := kit_d I q ey ry h2 n2
      have sb : SubA X (k + 2) X.A := SubA.self hr
      show wpAny _ _ (richCompare .NotEq _ _) _ _ _
      refine ne_K (tb := tyG t) sb.in1.room.units0 I.kIn J (Z.ty _ _ I.kIn pp) n1 hne hm hs hf ?_
      refine wpAny_mono (run_pure (vs := [.ref a, y]) (us := [.ref a, u]) (sb.in1.mono (by omega)) Fn hb I q (.cons rfl (.cons ey .nil)) (.cons rx (.cons ry .nil)) (by rw [hl]; rfl) (show F2 gp [dx, dy] S = .ok (.bl b) S from by simp only [F2]; rw [h4]; rfl)) (fun w s' z => ?_) fun _ _ z => z
      obtain ⟨vv, H', m', I', rv, e', x', w'⟩ := z
      cases w'
      obtain rfl : w = Value.bool b := rv
      exact ⟨b, rfl, .bl (!b), H', m', I', rfl, e', x', .bl _⟩
    · cases e⟩
/-- an own special method of one argument -/
structure OneM (X : Cx) (C : Addr) (nm : Str) (gp : Sto → D → Option D) : Prop where
  ex : ∃ (k : Nat) (f : Addr) (fd : FuncData) (ps : List Str), FnL X.prog X.w X.K X.mg X.base k f fd ps (F1 gp) ∧ Room (k + 3) X.A ∧ Binds X.K fd ps [] ∧ ps.length = 1 ∧ PySem.W.findIn X.K (.ref C) nm = some (some (.ref f)) ∧ PySem.W.isFn X.K (.ref f) = true
def gOwn1 (C : Addr) (gp : Sto → D → Option D) (S : Sto) (d : D) : Option D := match vw S d with
  | .obj C' _ => if C' = C then gp S d else none
  | _ => none
theorem gOwn1_inv {gp : Sto → D → Option D} {S : Sto} {x d : D} (h : gOwn1 C gp S x = some d) : ∃ fs, vw S x = .obj C fs ∧ gp S x = some d := by
  unfold gOwn1 at h
  split at h
  · rename_i C' fs q
    split at h
    · rename_i hc
      subst hc
      exact ⟨fs, q, h⟩
    · cases h
  · cases h
def strD : D → Option D
  | .str z => some (.str z)
  | _ => none
def gStrO (C : Addr) (gp : Sto → D → Option D) : GC := fun S ds => match ds with
  | [d] => (gOwn1 C gp S d).bind strD
  | _ => none
theorem gStrO_inv {gp : Sto → D → Option D} {S : Sto} {ds : List D} {d : D} (h : gStrO C gp S ds = some d) : ∃ x fs z, ds = [x] ∧ vw S x = .obj C fs ∧ gp S x = some (.str z) ∧ d = .str z := by
  unfold gStrO at h
  split at h
  · rename_i x
    cases q : gOwn1 C gp S x with
    | none => rw [q] at h; cases h
    | some e =>
      rw [q] at h
      obtain ⟨fs, h1, h2⟩ := gOwn1_inv q
      cases e with
      | str z => cases h; exact ⟨x, fs, z, rfl, h1, h2, rfl⟩
      | _ => cases h
  · cases h
theorem strBack {pins : List (Addr × Obj)} {σ : L2.St} {m : List Addr} {H : Hp} {S' : Sto} {z : Str} {w : Value} {s' : Shared} (h : VP X pins σ m H (.str z) S' w s') : PySem.W.StrBack (VP X pins σ m H (.str z) S') w s' := by
  obtain ⟨vv, H', m', I', rv, e', x', w'⟩ := id h
  cases w'
  obtain ⟨t, rfl⟩ := rv
  exact h
theorem cl_strO {gp : Sto → D → Option D} (E : OneM X C "__str__" gp) : CallL X (.type "str") (gStrO C gp) := ⟨fun pins s σ H m S xs ds d us I q r rv e => by
  obtain ⟨k, f, fd, ps, Fn, hr, hb, hl, hs, hf⟩ := E.ex
  obtain ⟨x, fs, z, rfl, h1, h2, rfl⟩ := gStrO_inv e
  obtain ⟨v, rfl, w⟩ := r.one
  obtain ⟨u, rfl, ru⟩ := vals1 rv
  obtain ⟨a, dx, fs', rfl, ha, _⟩ := vw_obj q w h1
  cases ru
  obtain ⟨mA, J, _⟩ := ins_get I.hok ha
  obtain ⟨od, J, _⟩ := J.look
  have sb : SubA X (k + 3) X.A := SubA.self hr
  refine PySem.W.kso_call sb.in1.in1.room.units0 I.kIn J hs hf ?_
  exact wpAny_mono (run_pure (vs := [.ref a]) (us := [.ref a]) (sb.in1.in1.mono (by omega)) Fn hb I q (.cons rfl .nil) (.cons w .nil) (by rw [hl]; rfl) (show F1 gp [x] S = .ok (.str z) S from by simp only [F1]; rw [h2]; rfl)) (fun w s' z => strBack z) fun _ _ z => z⟩
theorem cl_reprO {gp : Sto → D → Option D} (E : OneM X C "__repr__" gp) : CallL X (.builtin "repr") (gStrO C gp) := ⟨fun pins s σ H m S xs ds d us I q r rv e => by
  obtain ⟨k, f, fd, ps, Fn, hr, hb, hl, hs, hf⟩ := E.ex
  obtain ⟨x, fs, z, rfl, h1, h2, rfl⟩ := gStrO_inv e
  obtain ⟨v, rfl, w⟩ := r.one
  obtain ⟨u, rfl, ru⟩ := vals1 rv
  obtain ⟨a, dx, fs', rfl, ha, _⟩ := vw_obj q w h1
  cases ru
  obtain ⟨mA, J, _⟩ := ins_get I.hok ha
  obtain ⟨od, J, _⟩ := J.look
  have sb : SubA X (k + 3) X.A := SubA.self hr
  obtain ⟨mm, hF⟩ := I.fr
  refine PySem.W.repr_K sb.in1.room.units0 hF I.ok.mod.kin J hs hf ?_
  exact wpAny_mono (run_pure (vs := [.ref a]) (us := [.ref a]) (sb.in1.mono (by omega)) Fn hb I q (.cons rfl .nil) (.cons w .nil) (by rw [hl]; rfl) (show F1 gp [x] S = .ok (.str z) S from by simp only [F1]; rw [h2]; rfl)) (fun w s' z => strBack z) fun _ _ z => z⟩
def gLenO (C : Addr) (gp : Sto → D → Option D) : GC := fun S ds => match ds with
  | [d] => (gOwn1 C gp S d).bind fun e => match e with
    | .int n => if 0 ≤ n ∧ n < 2 ^ 63 then some (.int n) else none
    | _ => none
  | _ => none
theorem gLenO_inv {gp : Sto → D → Option D} {S : Sto} {ds : List D} {d : D} (h : gLenO C gp S ds = some d) : ∃ x fs n, ds = [x] ∧ vw S x = .obj C fs ∧ gp S x = some (.int n) ∧ d = .int n ∧ 0 ≤ n ∧ n < 2 ^ 63 := by
  unfold gLenO at h
  split at h
  · rename_i x
    cases q : gOwn1 C gp S x with
    | none => rw [q] at h; cases h
    | some e =>
      rw [q] at h
      obtain ⟨fs, h1, h2⟩ := gOwn1_inv q
      cases e with
      | int n =>
        dsimp only [Option.bind] at h
        split at h
        · rename_i hn
          cases h
          exact ⟨x, fs, n, rfl, h1, h2, rfl, hn.1, hn.2⟩
        · cases h
      | _ => cases h
  · cases h
theorem cl_lenO {gp : Sto → D → Option D} (E : OneM X C "__len__" gp) : CallL X (.builtin "len") (gLenO C gp) := ⟨fun pins s σ H m S xs ds d us I q r rv e => by
  obtain ⟨k, f, fd, ps, Fn, hr, hb, hl, hs, hf⟩ := E.ex
  obtain ⟨x, fs, n, rfl, h1, h2, rfl, n0, n1⟩ := gLenO_inv e
  obtain ⟨v, rfl, w⟩ := r.one
  obtain ⟨u, rfl, ru⟩ := vals1 rv
  obtain ⟨a, dx, fs', rfl, ha, _⟩ := vw_obj q w h1
  cases ru
  obtain ⟨mA, J, _⟩ := ins_get I.hok ha
  obtain ⟨od, J, _⟩ := J.look
  have sb : SubA X (k + 3) X.A := SubA.self hr
  obtain ⟨mm, hF⟩ := I.fr
  refine PySem.W.len_K hF I.ok.mod.kin J hs hf ?_
  refine wpAny_mono (run_pure (vs := [.ref a]) (us := [.ref a]) (sb.in1.mono (by omega)) Fn hb I q (.cons rfl .nil) (.cons w .nil) (by rw [hl]; rfl) (show F1 gp [x] S = .ok (.int n) S from by simp only [F1]; rw [h2]; rfl)) (fun w s' z => ?_) fun _ _ z => z
  obtain ⟨vv, H', m', I', rv, e', x', w'⟩ := z
  cases w'
  obtain ⟨t, rfl⟩ := rv
  first
    | exact ⟨⟨n0, n1⟩, .int n, H', m', I'.tok _, ⟨_, rfl⟩, e', x', .int n⟩
    | exact ⟨⟨n0, n1⟩, .int n, H', m', I', ⟨_, rfl⟩, e', x', .int n⟩⟩
end
end MP

namespace MP
open PySem PySem.Spec PyProof.Rows L2

/-! ### f'..' -/
section
variable {X : Cx} {e : Expr} {es : List Expr} {l : LE} {pos : Pos}
def gFmt (S : Sto) (d : D) : Option D := match vw S d with
  | .str y => if y.length ≤ sizeLine then some (.str y) else none
  | .int i => if i.natAbs.log2 < 1920 then some (.str (toString i)) else none
  | _ => none
def lFmt (l : LE) : LE := fun ρ S => (l ρ S).bind fun d S1 => lift1 (gFmt S1 d) S1
theorem pel_fmt (he : PEL X e l) : PEL X (.FormattedValue e (-1) none pos) (lFmt l) := by
  refine ⟨fun pins s σ H m ρ S I x r hp => ?_⟩
  refine wpAny_FormattedValue_plain (run_seq he I x r hp fun d S1 q1 v u s1 H1 m1 I1 rv e1 x1 w1 r1 hp1 => ?_)
  cases q2 : gFmt S1 d with
  | none => rw [q2] at hp1; exact absurd rfl hp1.1
  | some d' =>
    have e0 : lFmt l ρ S = .ok d' S1 := by unfold lFmt; rw [q1, bind_ok, q2]; rfl
    rw [e0]
    unfold gFmt at q2
    split at q2
    · rename_i y qv
      obtain rfl := vw_str w1 qv
      split at q2
      · rename_i hz
        cases q2
        obtain ⟨t, rfl⟩ := rv
        exact wpAny_formatField_str ⟨_, S1, rfl, .str y, H1, m1, I1, ⟨t, rfl⟩, e1, x1, .str y⟩ ⟨_, S1, rfl, .str y, H1, m1, I1.tok _, ⟨_, rfl⟩, e1, x1, .str y⟩ hz
      · cases q2
    · rename_i i qv
      obtain rfl := vw_int w1 qv
      split at q2
      · rename_i hz
        cases q2
        obtain ⟨t, rfl⟩ := rv
        exact wpAny_formatField_int hz ⟨_, S1, rfl, .str _, H1, m1, I1.tok _, ⟨_, rfl⟩, e1, x1, .str _⟩
      · cases q2
    · cases q2
abbrev LJ := Str → Ev → Sto → R Str
structure PJL (X : Cx) (es : List Expr) (l : LJ) : Prop where
  run : ∀ (acc : Str) (pins : List (Addr × Obj)) (s : Shared) (σ : L2.St) (H : Hp) (m : List Addr) (ρ : Ev) (S : Sto) (Rr : Str → Shared → Prop), acc.length ≤ sizeLine → Inv X pins σ H s → SR X.K m H S → ER X.K m H σ ρ → Hope X σ m H (l acc ρ S) →
    (∀ out S1 s1 H1 m1, l acc ρ S = .ok out S1 → out.length ≤ sizeLine → Inv X pins σ H1 s1 → Ext m H m1 H1 → SR X.K m1 H1 S1 → Rr out s1) → Joins (model X.prog X.w) X.A X.xe (evalEach es X.env) acc Rr s
def jNil : LJ := fun acc _ S => .ok acc S
def jCons (l : LE) (t : LJ) : LJ := fun acc ρ S => (l ρ S).bind fun d S1 => match d with
  | .str y => if (acc ++ y).length ≤ sizeLine then t (acc ++ y) ρ S1 else .bad
  | _ => .bad
theorem pjl_nil : PJL X [] jNil := ⟨fun acc pins s σ H m ρ S Rr hz I x r hp k => by
  have e0 : evalEach [] X.env = [] := by first | rfl | simp [evalEach]
  rw [e0]
  exact k acc S s H m rfl hz I Ext.refl x⟩
theorem pjl_cons {t : LJ} (he : PEL X e l) (ht : PJL X es t) : PJL X (e :: es) (jCons l t) := ⟨fun acc pins s σ H m ρ S Rr hz I x r hp k => by
  have e0 : evalEach (e :: es) X.env = eval e X.env :: evalEach es X.env := by first | rfl | simp [evalEach]
  rw [e0]
  refine run_seq he I x r hp fun d S1 q1 v u s1 H1 m1 I1 rv e1 x1 w1 r1 hp1 => ?_
  cases d with
  | str y =>
    have hy := hope_if hp1
    dsimp only at hp1
    rw [if_pos hy] at hp1
    cases w1
    obtain ⟨tk, rfl⟩ := rv
    have e2 : jCons l t acc ρ S = t (acc ++ y) ρ S1 := by unfold jCons; rw [q1, bind_ok]; dsimp only; rw [if_pos hy]
    exact ⟨y, tk, rfl, hy, ht.run (acc ++ y) pins s1 σ H1 m1 ρ S1 Rr hy I1 x1 r1 hp1 fun out S2 s2 H2 m2 q2 hz2 I2 e3 x2 => k out S2 s2 H2 m2 (e2.trans q2) hz2 I2 (e1.trans e3) x2⟩
  | _ => exact absurd rfl hp1.1⟩
def lJoin (t : LJ) : LE := fun ρ S => (t Str.empty ρ S).bind fun out S1 => .ok (.str out) S1
theorem hope_bind {α β : Type} {r : R α} {f : α → Sto → R β} {X : Cx} {σ : L2.St} {m : List Addr} {H : Hp} (h : Hope X σ m H (r.bind f)) : Hope X σ m H r := hope_seq h
theorem pel_join {v1 v2 : Expr} {rest : List Expr} {t : LJ} (h : PJL X (v1 :: v2 :: rest) t) : PEL X (.JoinedStr (v1 :: v2 :: rest) pos) (lJoin t) := by
  refine ⟨fun pins s σ H m ρ S I x r hp => ?_⟩
  refine wpAny_JoinedStr (h.run Str.empty pins s σ H m ρ S _ (Nat.zero_le _) I x r (hope_seq hp) fun out S1 s1 H1 m1 q1 hz I1 e1 x1 => ⟨hz, .str out, S1, ?_, .str out, H1, m1, I1.tok _, ⟨_, rfl⟩, e1, x1, .str out⟩)
  unfold lJoin; rw [q1]; rfl
theorem pel_join1 (he : PEL X e l) : PEL X (.JoinedStr [e] pos) l := ⟨fun pins s σ H m ρ S I x r hp => wpAny_JoinedStr_one (he.run pins s σ H m ρ S I x r hp)⟩
end

/-! ### methods of the built-in types -/
/-- the value and the store behind a method -/
abbrev GM := Sto → D → List D → Option (D × Sto)
structure MtL (X : Cx) (id : String) (g : GM) : Prop where
  run : ∀ (pins : List (Addr × Obj)) (s : Shared) (σ : L2.St) (H : Hp) (m : List Addr) (S S' : Sto) (x : V) (dx d : D) (xs : List V) (ds : List D) (v : Value) (us : List Value), Inv X pins σ H s → SR X.K m H S → VR X.K m H x dx → VRs X.K m H xs ds → RelV x v → Vals xs us → g S dx ds = some (d, S') →
    wpAny (model X.prog X.w) X.A (call (.builtin id) (v :: us)) (VP X pins σ m H d S') X.xe s
def isTy (T : String) (S : Sto) (d : D) : Bool := match vw S d with
  | .lst _ => T == "list"
  | .str _ => T == "str"
  | .dct _ _ => match d with
    | .ref _ => T == "dict"
    | _ => false
  | _ => false
theorem ty_of {X : Cx} {m : List Addr} {H : Hp} {S : Sto} {v : V} {d : D} {T : String} (x : SR X.K m H S) (r : VR X.K m H v d) (h : isTy T S d = true) : tyV X.K T v H := by
  unfold isTy at h
  split at h
  · rename_i xs q
    obtain ⟨a, vs, rfl, h1, _⟩ := vw_lst x r q
    exact .inl ⟨beq_iff_eq.mp h, vs, h1⟩
  · rename_i z q
    obtain rfl := vw_str r q
    exact beq_iff_eq.mp h
  · rename_i kvs q
    split at h
    · rename_i i
      cases r with
      | @ref _ a hm =>
        dsimp only [vw] at q
        cases q2 : S[i]? with
        | none => rw [q2] at q; cases q
        | some ob =>
          rw [q2] at q
          cases x.at_ i a ob hm q2 with
          | lst _ _ => cases q
          | ins _ _ => cases q
          | dct h1 _ => exact .inr (.inr (.inl ⟨beq_iff_eq.mp h, .inl ⟨_, h1⟩⟩))
          | dctT h1 _ => exact .inr (.inr (.inl ⟨beq_iff_eq.mp h, .inr ⟨_, h1⟩⟩))
    · cases h
  · cases h
def liftM (o : Option (D × Sto)) : R D := match o with
  | some (d, S) => .ok d S
  | none => .bad
def lBM (T : String) (g : GM) (lo : LE) (t : LA) : LE := fun ρ S => (lo ρ S).bind fun d S0 => if isTy T S0 d = true then (t ρ S0).bind fun ds S1 => liftM (g S1 d ds) else .bad
section
variable {X : Cx} {o e : Expr} {es : List Expr} {lo : LE} {t : LA} {name : Str} {apos cpos : Pos} {T id : String} {g : GM}
theorem pel_bm (pa : PlainAttrs T) (slot : Slot T name id) (hty : typeOf (.builtin id) = pure (.type "method_descriptor")) (hm : MtL X id g) (ho : PEL X o lo) (ha : PAL X (e :: es) t)
    (hbase : attributeBase o name X.env (eval o X.env) = eval o X.env := by rfl)
    (hfew : ((backTo cpos (starEach (e :: es) X.env)).all (fun x => !x.1) && (backToKw cpos (keywordEach [] X.env)).all (fun x => x.1.isSome)
      && decide ((e :: es).length + ([] : List Keyword).length + (if ([] : List Keyword).isEmpty then 0 else 1) < 30)) = true := by rfl)
    (hline : (apos.endLine == cpos.line) = true := by rfl) (hs : starEach (e :: es) X.env = (false, eval e X.env) :: starEach es X.env := by rfl) (hplain : (backTo cpos (starEach es X.env)).any (·.1) = false := by rfl) :
    PEL X (.Call (.Attribute o name apos) (e :: es) [] cpos) (lBM T g lo t) := by
  refine ⟨fun pins s σ H m ρ S I x r hp => ?_⟩
  refine wpAny_Call_method_late hbase hfew hline rfl (run_seq ho I x r hp fun d S0 q0 v u s1 H1 m1 I1 rv e1 x1 w1 r1 hp1 => ?_)
  have hc := hope_if hp1
  rw [if_pos hc] at hp1
  obtain ⟨h1, h2⟩ := tyV_is I1 rv (ty_of x1 w1 hc)
  refine ⟨T, id, pa, slot, hty, h1, h2, ?_⟩
  have hA : wpAny (model X.prog X.w) X.A (spliced (backTo cpos (starEach (e :: es) X.env))) (fun us s' => wpAny (model X.prog X.w) X.A (call (.builtin id) (u :: us)) (VPr X pins σ m H (lBM T g lo t ρ S)) X.xe s') X.xe s1 :=
    run_seqA ha I1 x1 r1 hp1 fun ds S1 q1 vs us s2 H2 m2 I2 rv2 e2 x2 w2 r2 hp2 => by
      cases q2 : g S1 d ds with
      | none => rw [q2] at hp2; exact absurd rfl hp2.1
      | some z =>
        obtain ⟨d', S'⟩ := z
        have e0 : lBM T g lo t ρ S = .ok d' S' := by unfold lBM; rw [q0, bind_ok, if_pos hc, q1, bind_ok, q2]; rfl
        rw [e0]
        exact thn (hm.run pins s2 σ H2 m2 S1 S' v d d' vs ds u us I2 x2 (w1.ext e2 x1.muts) w2 rv rv2 q2) fun _ _ z => (vpr_of z).left (e1.trans e2)
  rw [hs] at hA ⊢
  exact Calls.callWith_builtin (by show (false || (backTo cpos (starEach es X.env)).any (·.1)) = false; rw [hplain] <;> rfl) (Calls.evalArgs_plain hA)
theorem pel_bm0 (pa : PlainAttrs T) (slot : Slot T name id) (hty : typeOf (.builtin id) = pure (.type "method_descriptor")) (hm : MtL X id g) (ho : PEL X o lo)
    (hbase : attributeBase o name X.env (eval o X.env) = eval o X.env := by rfl) (hline : (apos.endLine == cpos.line) = true := by rfl) : PEL X (.Call (.Attribute o name apos) [] [] cpos) (lBM T g lo aNil) := by
  refine ⟨fun pins s σ H m ρ S I x r hp => ?_⟩
  refine wpAny_Call_method0_late hbase hline (run_seq ho I x r hp fun d S0 q0 v u s1 H1 m1 I1 rv e1 x1 w1 r1 hp1 => ?_)
  have hc := hope_if hp1
  rw [if_pos hc] at hp1
  obtain ⟨h1, h2⟩ := tyV_is I1 rv (ty_of x1 w1 hc)
  refine ⟨T, id, pa, slot, hty, h1, h2, Calls.callWith_builtin rfl (PySem.evalArgs_none ?_)⟩
  have hp2 : Hope X σ m1 H1 (liftM (g S0 d [])) := hp1
  cases q2 : g S0 d [] with
  | none => rw [q2] at hp2; exact absurd rfl hp2.1
  | some z =>
    obtain ⟨d', S'⟩ := z
    have e0 : lBM T g lo aNil ρ S = .ok d' S' := by unfold lBM; rw [q0, bind_ok, if_pos hc]; show liftM (g S0 d []) = _; rw [q2]; rfl
    rw [e0]
    exact thn (hm.run pins s1 σ H1 m1 S0 S' v d d' [] [] u [] I1 x1 w1 .nil rv .nil q2) fun _ _ z => (vpr_of z).left e1
end
section
variable {X : Cx}
def stApp : GM := fun S r ds => match r, ds with
  | .ref j, [y] => match S[j]? with
    | some (.lst xs) => if xs.length < sizeLine then some (.non, S.set j (.lst (xs ++ [y]))) else none
    | _ => none
  | _, _ => none
theorem mtl_append : MtL X "list.append" stApp := ⟨fun pins s σ H m S S' x dx d xs ds v us I q r rs rv rvs e => by
  unfold stApp at e
  split at e
  · rename_i j y
    split at e
    · rename_i l q1
      split at e
      · rename_i hz
        cases e
        obtain ⟨a, rfl, ha, orr⟩ := VR.ref_at q r q1
        obtain ⟨w, rfl, rw'⟩ := rs.one
        cases orr with
        | @lst vs _ hh rr =>
          obtain ⟨z1, z2⟩ := q.write (o' := .lst (vs ++ [w])) (ob' := .lst (l ++ [y])) ha fun e => .lst upd_same ((rr.append (.cons rw' .nil)).ext e q.muts)
          exact thn (mt_append pins s σ H (.ref a) [w] v us (fun v' H' => v' = .non ∧ H' = upd H a (.lst (vs ++ [w]))) I rv rvs ⟨a, vs, w, rfl, rfl, hh, by rw [rr.length]; exact hz, rfl, rfl⟩) fun _ s' ⟨v', H', I', rv', ev, eH⟩ => by
            subst ev; subst eH
            exact ⟨.non, _, m, I', rv', z1, z2, .non⟩
      · cases e
    · cases e
  · cases e⟩
def stPopAt : GM := fun S r ds => match r, ds with
  | .ref j, [.int i] => match S[j]? with
    | some (.lst xs) => if -(2 ^ 63) ≤ i ∧ i < 2 ^ 63 then (seqIndex? i xs.length).bind fun k => (xs[k]?).map fun y => (y, S.set j (.lst (xs.eraseIdx k))) else none
    | _ => none
  | _, _ => none
theorem mtl_popAt : MtL X "list.pop" stPopAt := ⟨fun pins s σ H m S S' x dx d xs ds v us I q r rs rv rvs e => by
  unfold stPopAt at e
  split at e
  · rename_i j i
    split at e
    · rename_i l q1
      split at e
      · rename_i hz
        cases q2 : seqIndex? i l.length with
        | none => rw [q2] at e; cases e
        | some k =>
          rw [q2] at e
          cases q3 : l[k]? with
          | none => dsimp only [Option.bind] at e; rw [q3] at e; cases e
          | some y =>
            dsimp only [Option.bind] at e
            rw [q3] at e
            cases e
            obtain ⟨a, rfl, ha, orr⟩ := VR.ref_at q r q1
            obtain ⟨w, rfl, rw'⟩ := rs.one
            cases rw'
            cases orr with
            | @lst vs _ hh rr =>
              obtain ⟨y', hy, ry⟩ := rr.getr q3
              obtain ⟨z1, z2⟩ := q.write (o' := .lst (vs.eraseIdx k)) (ob' := .lst (l.eraseIdx k)) ha fun e => .lst upd_same ((rr.eraseIdx k).ext e q.muts)
              exact thn (mt_popAt pins s σ H (.ref a) [.int i] v us (fun v' H' => v' = y' ∧ H' = upd H a (.lst (vs.eraseIdx k))) I rv rvs ⟨a, vs, i, k, y', rfl, rfl, hh, hz.1, hz.2, by rw [rr.length]; exact q2, hy, rfl, rfl⟩) fun _ s' ⟨v', H', I', rv', ev, eH⟩ => by
                subst ev; subst eH
                exact ⟨_, _, m, I', rv', z1, z2, ry.ext z1 q.muts⟩
      · cases e
    · cases e
  · cases e⟩
theorem list_append_ty : typeOf (.builtin "list.append") = (pure (.type "method_descriptor") : Sem Value) := PySem.F.type_list_append
theorem list_pop_ty : typeOf (.builtin "list.pop") = (pure (.type "method_descriptor") : Sem Value) := PySem.F.type_list_pop
theorem pel_append {o e : Expr} {lo : LE} {le : LE} {apos cpos : Pos} (ho : PEL X o lo) (he : PEL X e le)
    (hbase : attributeBase o "append" X.env (eval o X.env) = eval o X.env := by rfl)
    (hfew : ((backTo cpos (starEach [e] X.env)).all (fun x => !x.1) && (backToKw cpos (keywordEach [] X.env)).all (fun x => x.1.isSome)
      && decide ([e].length + ([] : List Keyword).length + (if ([] : List Keyword).isEmpty then 0 else 1) < 30)) = true := by rfl)
    (hline : (apos.endLine == cpos.line) = true := by rfl) (hs : starEach [e] X.env = (false, eval e X.env) :: starEach [] X.env := by rfl) :
    PEL X (.Call (.Attribute o "append" apos) [e] [] cpos) (lBM "list" stApp lo (aCons le aNil)) :=
  pel_bm PySem.F.plainAttrs_list PySem.F.slot_list_append list_append_ty mtl_append ho (pal_cons he pal_nil hs) hbase hfew hline hs
theorem pel_popAt {o e : Expr} {lo : LE} {le : LE} {apos cpos : Pos} (ho : PEL X o lo) (he : PEL X e le)
    (hbase : attributeBase o "pop" X.env (eval o X.env) = eval o X.env := by rfl)
    (hfew : ((backTo cpos (starEach [e] X.env)).all (fun x => !x.1) && (backToKw cpos (keywordEach [] X.env)).all (fun x => x.1.isSome)
      && decide ([e].length + ([] : List Keyword).length + (if ([] : List Keyword).isEmpty then 0 else 1) < 30)) = true := by rfl)
    (hline : (apos.endLine == cpos.line) = true := by rfl) (hs : starEach [e] X.env = (false, eval e X.env) :: starEach [] X.env := by rfl) :
    PEL X (.Call (.Attribute o "pop" apos) [e] [] cpos) (lBM "list" stPopAt lo (aCons le aNil)) :=
  pel_bm PySem.F.plainAttrs_list PySem.F.slot_list_pop list_pop_ty mtl_popAt ho (pal_cons he pal_nil hs) hbase hfew hline hs
end
end MP

namespace MP
open PySem PySem.Spec PyProof.Rows L2

/-! ### keywords -/
structure PKL (X : Cx) (kws : List Keyword) (l : LA) : Prop where
  run : ∀ (pos : Pos) (pins : List (Addr × Obj)) (s : Shared) (σ : L2.St) (H : Hp) (m : List Addr) (ρ : Ev) (S : Sto), Inv X pins σ H s → SR X.K m H S → ER X.K m H σ ρ → Hope X σ m H (l ρ S) →
    wpAny (model X.prog X.w) X.A (evalAll ((backToKw pos (keywordEach kws X.env)).map (·.2))) (APr X pins σ m H (l ρ S)) X.xe s
section
variable {X : Cx} {e : Expr} {kws : List Keyword} {l : LE} {t : LA} {nm : Option Str} {kpos : Pos}
theorem pkl_nil : PKL X [] aNil := ⟨fun pos pins s σ H m ρ S I x r hp => wpAny_evalAll_nil ⟨[], S, [], H, m, rfl, I, .nil, Ext.refl, x, .nil⟩⟩
theorem pkl_cons (he : PEL X e l) (ht : PKL X kws t) : PKL X (⟨nm, e, kpos⟩ :: kws) (aCons l t) := by
  refine ⟨fun pos pins s σ H m ρ S I x r hp => ?_⟩
  show wpAny _ _ (evalAll ((do let v ← eval e X.env; standAt pos; pure v) :: (backToKw pos (keywordEach kws X.env)).map (·.2))) _ _ s
  refine wpAny_evalAll_cons (wpAny_bind (run_seq he I x r hp fun d S1 q1 v u s1 H1 m1 I1 rv e1 x1 w1 r1 hp1 => wpAny_bind (wpAny_standAt (wpAny_pure ?_))))
  have hp2 : Hope X σ m1 H1 (t ρ S1) := hope_seq hp1
  refine thn (ht.run pos pins s1 σ H1 m1 ρ S1 I1 x1 r1 hp2) fun us s2 ⟨ds, S2, vs, H2, m2, q2, I2, rv2, e2, x2, w2⟩ => ?_
  refine ⟨d :: ds, S2, v :: vs, H2, m2, ?_, I2, .cons rv rv2, e1.trans e2, x2, .cons (w1.ext e2 x1.muts) w2⟩
  unfold aCons
  rw [q1, bind_ok, q2]
  rfl
end
/-- the values in the parameters' order -/
def pick {α : Type} (p : List Nat) (xs : List α) : List α := p.filterMap fun i => xs[i]?
theorem vals_pick {vs : List V} {us : List Value} (r : Vals vs us) : ∀ p : List Nat, Vals (pick p vs) (pick p us)
  | [] => .nil
  | i :: p => by
    unfold pick
    cases q : vs[i]? with
    | none =>
      have h : us[i]? = none := by
        rw [List.getElem?_eq_none_iff] at q ⊢
        rw [← r.length]; exact q
      rw [List.filterMap_cons_none q, List.filterMap_cons_none h]
      exact vals_pick r p
    | some v =>
      obtain ⟨u, hu, ru⟩ := r.get q
      rw [List.filterMap_cons_some q, List.filterMap_cons_some hu]
      exact .cons ru (vals_pick r p)
theorem VRs.pick {K : PySem.W.Frag} {m : List Addr} {H : Hp} {vs : List V} {ds : List D} (r : VRs K m H vs ds) : ∀ p : List Nat, VRs K m H (MP.pick p vs) (MP.pick p ds)
  | [] => .nil
  | i :: p => by
    unfold MP.pick
    cases q : ds[i]? with
    | none =>
      have h : vs[i]? = none := by
        rw [List.getElem?_eq_none_iff] at q ⊢
        rw [r.length]; exact q
      rw [List.filterMap_cons_none q, List.filterMap_cons_none h]
      exact VRs.pick r p
    | some d =>
      obtain ⟨u, hu, ru⟩ := r.getr q
      rw [List.filterMap_cons_some q, List.filterMap_cons_some hu]
      exact .cons ru (VRs.pick r p)
/-- how a call with n values by place and keywords ks binds: p the order, ds0 the values by default -/
structure KwB (K : PySem.W.Frag) (fd : FuncData) (ps : List Str) (n : Nat) (ks : List Str) (p : List Nat) (ds0 : List Value) : Prop where
  to : ∀ (s : Shared) (us ws : List Value), K.In s.heap → us.length = n → ws.length = ks.length → BindsTo s fd ⟨us, ks.zip ws⟩ (ps.zip (pick p (us ++ ws ++ ds0)))
  len : ∀ {α : Type} (xs : List α), xs.length = n + ks.length + ds0.length → (pick p xs).length = ps.length
theorem pick_len {α : Type} : ∀ (p : List Nat) (xs : List α), p.all (fun i => decide (i < xs.length)) = true → (pick p xs).length = p.length
  | [], xs, _ => rfl
  | i :: p, xs, h => by
    rw [List.all_cons, Bool.and_eq_true] at h
    have hi := of_decide_eq_true h.1
    unfold pick
    rw [List.filterMap_cons_some (List.getElem?_eq_getElem hi), List.length_cons]
    exact congrArg Nat.succ (pick_len p xs h.2)
theorem kwb {K : PySem.W.Frag} {x qual : Str} {st : Stmt} {f : Addr} {fd : FuncData} {ps ks : List Str} {n : Nat} {p : List Nat} (F : Fun K x qual st f fd) (hp : p.length = ps.length) (ha : p.all (fun i => decide (i < n + ks.length)) = true)
    (h : ∀ (kV doc pm : Value) (an : Option Addr) (cdv ct : Value) (us ws : List Value), us.length = n → ws.length = ks.length → bindArgs (PySem.W.fnOf x qual (defArgs st) (defBody st) (defScope st) .none kV doc pm an cdv ct) ⟨us, ks.zip ws⟩ = pure (ps.zip (pick p (us ++ ws)))) : KwB K fd ps n ks p [] := by
  obtain ⟨oc, od, kV, doc, pm, an, cdv, ct, osl, rfl, lk, hcd⟩ := F.ex
  refine ⟨fun s us ws _ l1 l2 => ?_, fun xs hx => ?_⟩
  · rw [List.append_nil]
    exact .of_eq (h kV doc pm an cdv ct us ws l1 l2)
  · rw [← hp]
    exact pick_len p xs (by rw [hx]; exact ha)

section
variable {X : Cx} {e : Expr} {pos p : Pos} {es : List Expr} {kws : List Keyword} {t tk : LA} {x : Str} {k n : Nat} {f C : Addr} {fd : FuncData} {ps ks : List Str} {g : F}
theorem run_fnK {pins : List (Addr × Obj)} {σ : L2.St} {H : Hp} {s : Shared} {full : List Value} {args : Args} {vs : List V} {m : List Addr} {S : Sto} {ds : List D} (Fn : FnL X.prog X.w X.K X.mg X.base k f fd ps g) (hr : Room k X.A) (hb : BindsTo s fd args (ps.zip full))
    (I : Inv X pins σ H s) (x : SR X.K m H S) (r : Vals vs full) (rd : VRs X.K m H vs ds) (hl : vs.length = ps.length) (hp : Hope X σ m H (g ds S)) :
    wpAny (model X.prog X.w) X.A (call (.ref f) args.pos args.kw) (VPr X pins σ m H (g ds S)) X.xe s := by
  have hsp : spL X.K g ps.length vs H (fun v H' => ∃ d S', g ds S = .ok d S' ∧ QV X.K m H S' d v H') (fun cls d H' => ∃ C fs S', g ds S = .exc C fs S' ∧ WL X.K m H C fs S' cls d H') :=
    ⟨hl, m, S, ds, x, rd, hp.1, fun d S' q v H' z => ⟨d, S', q, z⟩, fun C fs S' q cls d H' z => ⟨C, fs, S', q, z⟩⟩
  refine wpAny_call (codeAny_mono (Fn.run X.A X.stack s H args full vs _ _ hr I.env0 hb r hsp) fun r s' hq => ?_)
  cases r with
  | error e =>
    cases q : g ds S with
    | bad => rw [q] at hp; exact absurd rfl hp.1
    | ok d S' =>
      obtain ⟨_, _, _, _, _, _, _, _, _, _, _, _, C, fs, S', q', _⟩ := hq
      rw [q] at q'; cases q'
    | exc C fs S' =>
      refine hp.2 C fs S' q e s' (XE.of_call I (fun cls d H' w => ?_) hq)
      obtain ⟨C', fs', S'', q', w⟩ := w
      rw [q] at q'; cases q'
      exact ⟨rfl, w⟩
  | ok fl =>
    cases fl with
    | ret u =>
      obtain ⟨v, H', I', rv, d, S', q, m', e, x', w⟩ := I.after hq
      exact ⟨d, S', q, v, H', m', I', rv, e, x', w⟩
    | next => exact False.elim hq
    | brk => exact False.elim hq
    | cont => exact False.elim hq
/-- what is bound: the values by place, the keywords', those by default -/
def kwF (n m : Nat) (g : F) (pk : List Nat) (dd : List D) (ds es : List D) (S : Sto) : R D := if ds.length = n ∧ es.length = m then g (pick pk (ds ++ es ++ dd)) S else .bad
def lCallK (n m : Nat) (g : F) (pk : List Nat) (dd : List D) (t tk : LA) : LE := fun ρ S => (t ρ S).bind fun ds S1 => (tk ρ S1).bind fun es S2 => kwF n m g pk dd ds es S2
theorem pel_callKw {pk : List Nat} {ds0 : List Value} {dvs : List V} {dd : List D} (Fn : FnL X.prog X.w X.K X.mg X.base k f fd ps g) (hr : Room k X.A) (hg : Gl X x) (hm : X.mg x = some (.ref f)) (hk : PySem.W.keepIn X.K (.ref f) = true) (hb : KwB X.K fd ps n ks pk ds0) (hd : Dfl X.K dvs ds0 dd)
    (ha : PAL X (e :: es) t) (hkw : PKL X kws tk) (hall : (backToKw pos (keywordEach kws X.env)).all (·.1.isSome) = true := by rfl) (hks : (backToKw pos (keywordEach kws X.env)).filterMap (·.1) = ks := by rfl)
    (hdb : (x == ("__debug__" : Str)) = false := by decide) (he : starEach (e :: es) X.env = (false, eval e X.env) :: starEach es X.env := by rfl)
    (hpl : ((backTo pos (starEach (e :: es) X.env)).any (·.1) || (backToKw pos (keywordEach kws X.env)).any (·.1.isNone)) = false := by rfl) :
    PEL X (.Call (.Name x p) (e :: es) kws pos) (lCallK n ks.length g pk dd t tk) := by
  refine ⟨fun pins s σ H m ρ S I x r hp => ?_⟩
  refine wpAny_Call_Name_kw (ld_glob I hg hm ?_ hdb)
  refine PySem.W.callWith_KW (h₀ := X.base) I.ok.mod.kin hk hall (run_seqA ha I x r hp fun ds S1 q1 vs us s1 H1 m1 I1 rv e1 x1 w1 r1 hp1 => ?_) hpl he
  refine thn (hkw.run pos pins s1 σ H1 m1 ρ S1 I1 x1 r1 (hope_seq hp1)) fun ws s2 ⟨zs, S2, zv, H2, m2, q2, I2, rv2, e2, x2, w2⟩ => ⟨I2.kIn, ?_⟩
  rw [q2] at hp1
  have hp2 : Hope X σ m2 H2 (kwF n ks.length g pk dd ds zs S2) := hp1.ext e2
  have hl := hope_if hp2
  unfold kwF at hp2
  rw [if_pos hl] at hp2
  have e0 : lCallK n ks.length g pk dd t tk ρ S = g (pick pk (ds ++ zs ++ dd)) S2 := by unfold lCallK; rw [q1, bind_ok, q2, bind_ok]; unfold kwF; rw [if_pos hl]
  rw [e0, hks]
  have l1 : us.length = n := by rw [← rv.length, w1.length]; exact hl.1
  have l2 : ws.length = ks.length := by rw [← rv2.length, w2.length]; exact hl.2
  have r3 : Vals (vs ++ zv ++ dvs) (us ++ ws ++ ds0) := (rv.append rv2).append hd.vals
  refine thn (run_fnK (args := ⟨us, ks.zip ws⟩) Fn hr (hb.to s2 us ws I2.kIn l1 l2) I2 x2 (vals_pick r3 pk) ((((w1.ext e2 x1.muts).append w2).append (hd.rel _ _)).pick pk) (hb.len _ ?_) hp2) fun _ _ z => z.left (e1.trans e2)
  rw [r3.length, List.length_append, List.length_append, l1, l2]
theorem pel_callKw0 {pk : List Nat} {ds0 : List Value} {dvs : List V} {dd : List D} (Fn : FnL X.prog X.w X.K X.mg X.base k f fd ps g) (hr : Room k X.A) (hg : Gl X x) (hm : X.mg x = some (.ref f)) (hk : PySem.W.keepIn X.K (.ref f) = true) (hb : KwB X.K fd ps 0 ks pk ds0) (hd : Dfl X.K dvs ds0 dd)
    (hkw : PKL X kws tk) (hall : (backToKw pos (keywordEach kws X.env)).all (·.1.isSome) = true := by rfl) (hks : (backToKw pos (keywordEach kws X.env)).filterMap (·.1) = ks := by rfl)
    (hdb : (x == ("__debug__" : Str)) = false := by decide)
    (hpl : ((backTo pos (starEach [] X.env)).any (·.1) || (backToKw pos (keywordEach kws X.env)).any (·.1.isNone)) = false := by rfl) :
    PEL X (.Call (.Name x p) [] kws pos) (lCallK 0 ks.length g pk dd aNil tk) := by
  refine ⟨fun pins s σ H m ρ S I x r hp => ?_⟩
  refine wpAny_Call_Name_kw (ld_glob I hg hm ?_ hdb)
  refine PySem.W.callWith_KW0 (h₀ := X.base) I.ok.mod.kin hk hall ?_ hpl
  have hp1 : Hope X σ m H ((tk ρ S).bind fun es S2 => kwF 0 ks.length g pk dd [] es S2) := hp
  refine thn (hkw.run pos pins s σ H m ρ S I x r (hope_seq hp1)) fun ws s2 ⟨zs, S2, zv, H2, m2, q2, I2, rv2, e2, x2, w2⟩ => ⟨I2.kIn, ?_⟩
  rw [q2] at hp1
  have hp2 : Hope X σ m2 H2 (kwF 0 ks.length g pk dd [] zs S2) := hp1.ext e2
  have hl := hope_if hp2
  unfold kwF at hp2
  rw [if_pos hl] at hp2
  have e0 : lCallK 0 ks.length g pk dd aNil tk ρ S = g (pick pk ([] ++ zs ++ dd)) S2 := by
    show ((tk ρ S).bind fun es S2 => kwF 0 ks.length g pk dd [] es S2) = _
    rw [q2, bind_ok]; unfold kwF; rw [if_pos hl]
  rw [e0, hks]
  have l2 : ws.length = ks.length := by rw [← rv2.length, w2.length]; exact hl.2
  have r3 : Vals ([] ++ zv ++ dvs) ([] ++ ws ++ ds0) := ((show Vals ([] : List V) [] from .nil).append rv2).append hd.vals
  refine thn (run_fnK (args := ⟨[], ks.zip ws⟩) Fn hr (hb.to s2 [] ws I2.kIn rfl l2) I2 x2 (vals_pick r3 pk) (((VRs.nil.append w2).append (hd.rel _ _)).pick pk) (hb.len _ ?_) hp2) fun _ _ z => z.left e2
  rw [r3.length, List.length_append, List.length_append, l2]
  rfl
theorem run_makeK {pins : List (Addr × Obj)} {σ : L2.St} {H : Hp} {s : Shared} {us : List Value} {kwv : List (Str × Value)} {full : List Value → List Value} {vs : List V} {m : List Addr} {S : Sto} {ds : List D} {gn : F} {fv : List V → List V} {fdd : List D → List D} (M : Mk X.K C f) (Fn : FnL X.prog X.w X.K X.mg X.base k f fd ps g) (hr : Room (k + 1) X.A)
    (hb : ∀ s a, X.K.In s.heap → BindsTo s fd ⟨.ref a :: us, kwv⟩ (ps.zip (full [.ref a]))) (hv : ∀ a, Vals (fv [.ref a]) (full [.ref a])) (hds : ∀ a n m H, VR X.K m H (.ref a) (.ref n) → VRs X.K m H vs ds → VRs X.K m H (fv [.ref a]) (fdd [.ref n])) (hlen : ∀ a, (fv [.ref a]).length = ps.length)
    (I : Inv X pins σ H s) (x : SR X.K m H S) (rd : VRs X.K m H vs ds) (hg : RLe S (gn ds S) ((g (fdd [.ref S.length]) (S ++ [.ins C []])).bind fun d S1 => match d with
      | .non => .ok (.ref S.length) S1
      | _ => .bad)) (hp : Hope X σ m H (gn ds S)) :
    wpAny (model X.prog X.w) X.A (call (.ref C) us kwv) (VPr X pins σ m H (gn ds S)) X.xe s := by
  obtain ⟨pd, hpd⟩ : ∃ a, a = s.heap.objs.size := ⟨_, rfl⟩
  obtain ⟨pa, hpa⟩ : ∃ a, a = s.heap.objs.size + 1 := ⟨_, rfl⟩
  have n1 : H pa = none := hpa ▸ I.hok.fresh (Nat.le_succ _)
  have n2 : H pd = none := hpd ▸ I.hok.fresh (Nat.le_refl _)
  have ne : pa ≠ pd := by omega
  have I2 := Inv.made (C := C) I
  rw [← hpa, ← hpd] at I2
  have n1' : (upd H pd (.own pa)) pa = none := by rw [upd_ne ne]; exact n1
  have x1 : SR X.K m (upd H pd (.own pa)) S := x.fresh n2
  have E1 : Ext m H m (upd H pd (.own pa)) := Ext.fresh n2
  obtain ⟨E2, x2⟩ := x1.snoc (o := .ins C pd []) (ob := .ins C []) n1' fun m' H' _ q => .ins q .nil
  have E3 := E1.trans E2
  have rd2 := hds pa S.length (m ++ [pa]) (upd (upd H pd (.own pa)) pa (.ins C pd [])) (.ref (by rw [← x.len]; simp)) (rd.ext E3 x.muts)
  generalize hG : g (fdd [.ref S.length]) (S ++ [.ins C []]) = G at hg
  have nb : G ≠ .bad := fun z => by
    rw [z] at hg
    generalize gn ds S = A at hg hp
    cases hg with
    | bad => exact hp.1 rfl
    | refl => exact hp.1 rfl
  have hsp : spL X.K g ps.length (fv [.ref pa]) (upd (upd H pd (.own pa)) pa (.ins C pd [])) (fun v H' => ∃ d S', G = .ok d S' ∧ QV X.K (m ++ [pa]) (upd (upd H pd (.own pa)) pa (.ins C pd [])) S' d v H')
      (fun cls d H' => ∃ C' fs S', G = .exc C' fs S' ∧ WL X.K (m ++ [pa]) (upd (upd H pd (.own pa)) pa (.ins C pd [])) C' fs S' cls d H') := by
    refine ⟨hlen pa, _, _, _, x2, rd2, ?_, ?_, ?_⟩
    · rw [hG]; exact nb
    · intro d S' q v H' z
      rw [hG] at q
      exact ⟨d, S', q, z⟩
    · intro C' fs S' q cls d H' z
      rw [hG] at q
      exact ⟨C', fs, S', q, z⟩
  refine wpAny_call (make_map (f := f) I.kIn M.makes M.init (beq_iff_eq.mp M.fn) ?_)
  rw [← hpa, ← hpd]
  refine codeAny_mono (Fn.run _ X.stack _ _ ⟨Value.ref pa :: us, kwv⟩ _ _ _ _ (hr.make C us kwv) (I2.env0.make C us kwv) (hb _ pa I2.kIn) (hv pa) hsp) fun r s' hq => ?_
  cases r with
  | error e =>
    obtain ⟨C', fs, S', q, w0⟩ : ∃ C' fs S', G = .exc C' fs S' ∧ XE X (fun cls d σ' H' => σ' = σ ∧ WL X.K m H C' fs S' cls d H') e s' := by
      have hx := XE.of_call (W := fun cls d σ' H' => σ' = σ ∧ ∃ C' fs S', G = .exc C' fs S' ∧ WL X.K m H C' fs S' cls d H') I2 (fun cls d H' w => by
        obtain ⟨C', fs, S', q, w⟩ := w
        exact ⟨rfl, C', fs, S', q, w.ext E3⟩) hq
      obtain ⟨_, _, _, _, _, _, _, _, _, _, _, _, _, _, _, _, _, C', fs, S', q, _⟩ := id hx
      refine ⟨C', fs, S', q, XE.imp hx fun cls d σ' H' w => ?_⟩
      obtain ⟨w1, C2, fs2, S2, q2, w2⟩ := w
      rw [q] at q2
      cases q2
      exact ⟨w1, w2⟩
    subst q
    dsimp only [R.bind] at hg
    generalize hA : gn ds S = A at hg hp
    cases hg with
    | bad => exact absurd rfl hp.1
    | refl => exact hp.2 _ _ _ rfl e s' w0
    | gcx _ _ _ h b => exact hp.2 _ _ _ rfl e s' (XE.imp w0 fun cls d σ' H' w => ⟨w.1, wl_gc x w.2 h b⟩)
  | ok fl =>
    cases fl with
    | ret u =>
      obtain ⟨v, H', I3, rv, d, S', q, m', e', x', w'⟩ := I2.after hq
      subst q
      have hn : d = .non := by
        cases d with
        | non => rfl
        | _ =>
          dsimp only [R.bind] at hg
          generalize gn ds S = A at hg hp
          cases hg with
          | bad => exact absurd rfl hp.1
          | refl => exact absurd rfl hp.1
      subst hn
      cases w'
      obtain rfl : u = Value.none := rv
      have qv : QV X.K m H S' (.ref S.length) (.ref pa) H' := ⟨m', E3.trans e', x', .ref (e'.get (by rw [← x.len]; simp))⟩
      refine ⟨rfl, ?_⟩
      dsimp only [R.bind] at hg
      generalize hA : gn ds S = A at hg hp
      cases hg with
      | bad => exact absurd rfl hp.1
      | refl =>
        obtain ⟨m2, z1, z2, z3⟩ := qv
        exact ⟨_, _, rfl, .ref pa, H', m2, I3, rfl, z1, z2, z3⟩
      | gc _ _ _ h e b =>
        subst e
        obtain ⟨m2, z1, z2, z3⟩ := qv_gc x qv h b
        exact ⟨_, _, rfl, .ref pa, H', m2, I3, rfl, z1, z2, z3⟩
    | next => exact False.elim hq
    | brk => exact False.elim hq
    | cont => exact False.elim hq
/-- C(k = v, ..): the values in the order of __init__'s parameters behind self; pk: where they stand, self being 0 -/
def kwM (m : Nat) (gn : F) (es : List D) (S : Sto) : R D := if es.length = m then gn es S else .bad
theorem pel_makeKw0 {pk : List Nat} {ds0 : List Value} {dvs : List V} {dd : List D} {gm : F} (M : Mk X.K C f) (Fn : FnL X.prog X.w X.K X.mg X.base k f fd ps g) (hr : Room (k + 1) X.A) (hg : Gl X x) (hm : X.mg x = some (.ref C)) (hb : KwB X.K fd ps 1 ks pk ds0) (hd : Dfl X.K dvs ds0 dd)
    (hgm : ∀ es S, es.length = ks.length → RLe S (gm es S) ((g (pick pk (.ref S.length :: es ++ dd)) (S ++ [.ins C []])).bind fun d S1 => match d with
      | .non => .ok (.ref S.length) S1
      | _ => .bad))
    (hkw : PKL X kws tk) (hall : (backToKw pos (keywordEach kws X.env)).all (·.1.isSome) = true := by rfl) (hks : (backToKw pos (keywordEach kws X.env)).filterMap (·.1) = ks := by rfl)
    (hdb : (x == ("__debug__" : Str)) = false := by decide)
    (hpl : ((backTo pos (starEach [] X.env)).any (·.1) || (backToKw pos (keywordEach kws X.env)).any (·.1.isNone)) = false := by rfl) :
    PEL X (.Call (.Name x p) [] kws pos) (fun ρ S => (tk ρ S).bind fun es S2 => kwM ks.length gm es S2) := by
  refine ⟨fun pins s σ H m ρ S I x r hp => ?_⟩
  refine wpAny_Call_Name_kw (ld_glob I hg hm ?_ hdb)
  refine PySem.W.callWith_KW0 (h₀ := X.base) I.ok.mod.kin M.kp hall ?_ hpl
  refine thn (hkw.run pos pins s σ H m ρ S I x r (hope_seq hp)) fun ws s2 ⟨zs, S2, zv, H2, m2, q2, I2, rv2, e2, x2, w2⟩ => ⟨I2.kIn, ?_⟩
  rw [q2] at hp ⊢
  have hp2 : Hope X σ m2 H2 (kwM ks.length gm zs S2) := hp.ext e2
  have hl := hope_if hp2
  unfold kwM at hp2
  rw [if_pos hl] at hp2
  have e0 : ((R.ok zs S2).bind fun es S2 => kwM ks.length gm es S2) = gm zs S2 := by show kwM ks.length gm zs S2 = _; unfold kwM; rw [if_pos hl]
  rw [e0, hks]
  have l2 : ws.length = ks.length := by rw [← rv2.length, w2.length]; exact hl
  refine thn (run_makeK (us := []) (kwv := ks.zip ws) (full := fun a => pick pk (a ++ ws ++ ds0)) (vs := zv) (ds := zs) (fv := fun a => pick pk (a ++ zv ++ dvs)) (fdd := fun n => pick pk (n ++ zs ++ dd)) (gn := gm) M Fn hr (fun s a hi => hb.to s [.ref a] ws hi rfl l2)
    (fun a => vals_pick (((show Vals [V.ref a] [Value.ref a] from .cons rfl .nil).append rv2).append hd.vals) pk) (fun a n m H h r => (((VRs.cons h .nil).append r).append (hd.rel _ _)).pick pk) (fun a => hb.len _ ?_) I2 x2 w2 (hgm zs S2 hl) hp2) fun _ _ z => z.left e2
  rw [List.length_append, List.length_append, rv2.length, l2, hd.vals.length]
  rfl
end
end MP

namespace MP
open PySem PySem.Spec PyProof.Rows L2
section
variable {X : Cx}
def gAdd : G2 := fun S x y => ((gAddI S x y).or (gAddS S x y)).or (gCat S x y)
theorem opl_add : OpL X (binaryOp .Add) gAdd := (opl_addI.or opl_addS).or opl_catT
theorem opl_mul : OpL X (binaryOp .Mult) gMulI := opl_mulI
end
end MP

namespace MP
open PySem PySem.Spec PyProof.Rows L2
theorem lg_lt {i : Int} {k : Nat} (h : i.natAbs < 2 ^ k) (hk : 0 < k) : i.natAbs.log2 < k := by
  by_cases z : i.natAbs = 0
  · rw [z]; simpa using hk
  · exact (Nat.log2_lt z).mpr h
theorem abs_lt {i : Int} {n : Nat} (h1 : -(n : Int) < i) (h2 : i < n) : i.natAbs < n := by omega
/-- a number of at most 600 figures -/
def Sm (i : Int) : Prop := -(10 ^ 250) < i ∧ i < 10 ^ 250
theorem Sm.lg {i : Int} (h : Sm i) : i.natAbs.log2 < 900 := by
  refine lg_lt (Nat.lt_of_lt_of_le (abs_lt (n := 10 ^ 250) ?_ ?_) (by decide +kernel)) (by decide)
  · have := h.1; simpa using this
  · have := h.2; simpa using this
theorem Sm.of {i : Int} (h0 : 0 ≤ i) {n : Int} (h1 : i < n) (hn : n ≤ 10 ^ 250) : Sm i := by
  have : (0 : Int) < 10 ^ 250 := by decide +kernel
  exact ⟨by omega, by omega⟩
theorem mul_ii {S : Sto} {i j : Int} (h : Sm i) (h' : Sm j) : gMulI S (.int i) (.int j) = some (.int (i * j)) := by
  have a := h.lg
  have b := h'.lg
  show (if i.natAbs.log2 + j.natAbs.log2 < 1000000 then some (D.int (i * j)) else none) = _
  rw [if_pos (by omega)]
theorem div_ii {S : Sto} {i j : Int} (h0 : 0 < j) (h : Sm j) : gDiv S (.int i) (.int j) = some (.int (i / j)) := by
  have a := h.lg
  show (if 0 < j ∧ j.natAbs.log2 < 9000 then some (D.int (i / j)) else none) = _
  rw [if_pos ⟨h0, by omega⟩]
theorem mod_ii {S : Sto} {i j : Int} (h0 : 0 < j) : gMod S (.int i) (.int j) = some (.int (i % j)) := by
  show (if 0 < j then some (D.int (i % j)) else none) = _
  rw [if_pos h0]
theorem pow_ii {S : Sto} {i j : Int} (h : 0 ≤ j ∧ j ≤ 1000000 ∧ i.natAbs < 2 ^ 64) : gPow S (.int i) (.int j) = some (.int (i ^ j.toNat)) := by
  show (if 0 ≤ j ∧ j ≤ 1000000 ∧ i.natAbs < 2 ^ 64 then some (D.int (i ^ j.toNat)) else none) = _
  rw [if_pos h]
theorem add_ii {S : Sto} {i j : Int} : gAdd S (.int i) (.int j) = some (.int (i + j)) := rfl
theorem add_ss {S : Sto} {i j : Str} (h : i.length + j.length ≤ sizeLine) : gAdd S (.str i) (.str j) = some (.str (i ++ j)) := by
  show ((if i.length + j.length ≤ sizeLine then some (D.str (i ++ j)) else none).or (gCat S (.str i) (.str j))) = _
  rw [if_pos h]; rfl
theorem eq_ii {S : Sto} {i j : Int} : gEq S (.int i) (.int j) = some (.bl (decide (i = j))) := rfl
theorem ne_ii {S : Sto} {i j : Int} : gNe S (.int i) (.int j) = some (.bl (!decide (i = j))) := rfl
theorem eq_ss {S : Sto} {i j : Str} : gEq S (.str i) (.str j) = some (.bl (decide (i = j))) := rfl
theorem ne_ss {S : Sto} {i j : Str} : gNe S (.str i) (.str j) = some (.bl (!decide (i = j))) := rfl
theorem eq_bb {S : Sto} {i j : Bool} : gEq S (.bl i) (.bl j) = some (.bl (decide (i = j))) := rfl
theorem eqv2 {a b c d : Int} : PyData.eqv (.tuple [.int a, .int b]) (.tuple [.int c, .int d]) = decide (a = c ∧ b = d) := by
  rw [Bool.eq_iff_iff]; simp [PyData.eqv, PyData.eqvAll]
theorem eq_t2 {S : Sto} {a b c d : Int} : gEq S (.tup [.int a, .int b]) (.tup [.int c, .int d]) = some (.bl (decide (a = c ∧ b = d))) := by
  show ((if SeqAt.shaped (.tuple [.int a, .int b]) = true ∧ SeqAt.shaped (.tuple [.int c, .int d]) = true then some (PyData.eqv (.tuple [.int a, .int b]) (.tuple [.int c, .int d])) else none).map D.bl) = _
  rw [if_pos ⟨by rfl, by rfl⟩, eqv2]; rfl
theorem ne_t2 {S : Sto} {a b c d : Int} : gNe S (.tup [.int a, .int b]) (.tup [.int c, .int d]) = some (.bl (!decide (a = c ∧ b = d))) := by
  show ((if SeqAt.shaped (.tuple [.int a, .int b]) = true ∧ SeqAt.shaped (.tuple [.int c, .int d]) = true then some (PyData.eqv (.tuple [.int a, .int b]) (.tuple [.int c, .int d])) else none).map fun b => D.bl (!b)) = _
  rw [if_pos ⟨by rfl, by rfl⟩, eqv2]; rfl
/-! ### how the words compute -/
theorem bin_ok {g : G2} {la lb : LE} {ρ : Ev} {S S1 S2 : Sto} {x y d : D} (h1 : la ρ S = .ok x S1) (h2 : lb ρ S1 = .ok y S2) (h3 : g S2 x y = some d) : lBin g la lb ρ S = .ok d S2 := by
  unfold lBin; rw [h1, bind_ok, h2, bind_ok, h3]; rfl
theorem tru_ok {l : LE} {ρ : Ev} {S S1 : Sto} {d : D} {b : Bool} (h1 : l ρ S = .ok d S1) (h2 : truth S1 d = some b) : tTru l ρ S = .ok b S1 := by
  unfold tTru; rw [h1, bind_ok, h2]; rfl
theorem acons_ok {l : LE} {t : LA} {ρ : Ev} {S S1 S2 : Sto} {d : D} {ds : List D} (h1 : l ρ S = .ok d S1) (h2 : t ρ S1 = .ok ds S2) : aCons l t ρ S = .ok (d :: ds) S2 := by
  unfold aCons; rw [h1, bind_ok, h2]; rfl
theorem callb_ok {g : GC} {t : LA} {ρ : Ev} {S S1 : Sto} {d : D} {ds : List D} (h1 : t ρ S = .ok ds S1) (h2 : g S1 ds = some d) : lCallB g t ρ S = .ok d S1 := by
  unfold lCallB; rw [h1, bind_ok, h2]; rfl
theorem call_ok {g : F} {n : Nat} {t : LA} {ρ : Ev} {S S1 : Sto} {ds dd : List D} {r : R D} (h1 : t ρ S = .ok ds S1) (h2 : ds.length + dd.length = n) (h3 : g (ds ++ dd) S1 = r) : lCall n g dd t ρ S = r := by
  unfold lCall; rw [h1, bind_ok, if_pos h2, h3]
theorem tup_ok {t : LA} {ρ : Ev} {S S1 : Sto} {ds : List D} (h1 : t ρ S = .ok ds S1) (h : ds.length ≤ 1000) : lTup t ρ S = .ok (.tup ds) S1 := by
  unfold lTup; rw [h1, bind_ok, if_pos (Nat.le_trans h (by decide))]
theorem lst_ok {t : LA} {ρ : Ev} {S S1 : Sto} {ds : List D} (h1 : t ρ S = .ok ds S1) (h : ds.length ≤ 1000) : lLst t ρ S = .ok (.lst ds) S1 := by
  unfold lLst; rw [h1, bind_ok, if_pos (Nat.le_trans h (by decide))]
theorem lstN_ok {t : LA} {ρ : Ev} {S S1 : Sto} {ds : List D} (h1 : t ρ S = .ok ds S1) (h : ds.length ≤ 1000) : lLstN t ρ S = .ok (.ref S1.length) (S1 ++ [.lst ds]) := by
  unfold lLstN; rw [h1, bind_ok, if_pos (Nat.le_trans h (by decide))]
theorem fld_ok {C : Addr} {f : Str} {l : LE} {ρ : Ev} {S S1 : Sto} {d e : D} (h1 : l ρ S = .ok d S1) (h2 : gFld C f S1 d = some e) : lFld C f l ρ S = .ok e S1 := by
  unfold lFld; rw [h1, bind_ok, h2]; rfl
theorem set_ok {i : Nat} {l : LE} {ρ : Ev} {S S1 : Sto} {d : D} (h : l ρ S = .ok d S1) : lSet i l ρ S = .ok (.nx (ρ.set i (some d))) S1 := by
  unfold lSet; rw [h]; rfl
theorem ret_ok {l : LE} {ρ : Ev} {S S1 : Sto} {d : D} (h : l ρ S = .ok d S1) : lRet l ρ S = .ok (.rt d) S1 := by
  unfold lRet; rw [h]; rfl
theorem expr_ok {l : LE} {ρ : Ev} {S S1 : Sto} {d : D} (h : l ρ S = .ok d S1) : lExpr l ρ S = .ok (.nx ρ) S1 := by
  unfold lExpr; rw [h]; rfl
theorem seq_nx {l1 l2 : LS} {ρ ρ' : Ev} {S S1 : Sto} {r : R Fl} (h : l1 ρ S = .ok (.nx ρ') S1) (h2 : l2 ρ' S1 = r) : lSeq l1 l2 ρ S = r := by
  unfold lSeq; rw [h, bind_ok]; exact h2
theorem seq_rt {l1 l2 : LS} {ρ : Ev} {S S1 : Sto} {d : D} (h : l1 ρ S = .ok (.rt d) S1) : lSeq l1 l2 ρ S = .ok (.rt d) S1 := by
  unfold lSeq; rw [h, bind_ok]; rfl
theorem if_tt {tc : LT} {l1 l2 : LS} {ρ : Ev} {S S1 : Sto} {r : R Fl} (h : tc ρ S = .ok true S1) (h2 : l1 ρ S1 = r) : lIfS tc l1 l2 ρ S = r := by
  unfold lIfS; rw [h]; exact h2
theorem if_ff {tc : LT} {l1 l2 : LS} {ρ : Ev} {S S1 : Sto} {r : R Fl} (h : tc ρ S = .ok false S1) (h2 : l2 ρ S1 = r) : lIfS tc l1 l2 ρ S = r := by
  unfold lIfS; rw [h]; exact h2
theorem par_ok {i j : Nat} {t : LA} {ρ : Ev} {S S1 : Sto} {a b : D} (h : t ρ S = .ok [a, b] S1) : lPar i j t ρ S = .ok (.nx ((ρ.set i (some a)).set j (some b))) S1 := by
  unfold lPar; rw [h]; rfl
theorem stS_ok {g : Sto → D → D → D → Option Sto} {lo li le : LE} {ρ : Ev} {S S1 S2 S3 S4 : Sto} {d r k : D} (h1 : le ρ S = .ok d S1) (h2 : lo ρ S1 = .ok r S2) (h3 : li ρ S2 = .ok k S3) (h4 : g S3 r k d = some S4) : lStS g lo li le ρ S = .ok (.nx ρ) S4 := by
  unfold lStS; rw [h1]; show liftX ρ (lo ρ S1) _ = _; rw [h2]; show liftX ρ (li ρ S2) _ = _; rw [h3]; show liftS _ ρ = _; rw [h4]; rfl
theorem stF_ok {C : Addr} {f : Str} {lo le : LE} {ρ : Ev} {S S1 S2 S3 : Sto} {d r : D} (h1 : le ρ S = .ok d S1) (h2 : lo ρ S1 = .ok r S2) (h3 : stFld C f S2 r d = some S3) : lStF C f lo le ρ S = .ok (.nx ρ) S3 := by
  unfold lStF; rw [h1]; show liftX ρ (lo ρ S1) _ = _; rw [h2]; show liftS _ ρ = _; rw [h3]; rfl
theorem bm_ok {T : String} {g : GM} {lo : LE} {t : LA} {ρ : Ev} {S S1 S2 S3 : Sto} {d e : D} {ds : List D} (h1 : lo ρ S = .ok d S1) (h2 : isTy T S1 d = true) (h3 : t ρ S1 = .ok ds S2) (h4 : g S2 d ds = some (e, S3)) : lBM T g lo t ρ S = .ok e S3 := by
  unfold lBM; rw [h1, bind_ok, if_pos h2, h3, bind_ok, h4]; rfl
theorem meth_ok {C : Addr} {mn : Str} {n : Nat} {g : F} {lo : LE} {t : LA} {ρ : Ev} {S S1 S2 : Sto} {d : D} {ds dd : List D} {r : R D} (h1 : lo ρ S = .ok d S1) (h2 : recv C mn S1 d = true) (h3 : t ρ S1 = .ok ds S2) (h4 : (ds.length + dd.length) + 1 = n) (h5 : g (d :: (ds ++ dd)) S2 = r) : lMeth C mn n g dd lo t ρ S = r := by
  unfold lMeth; rw [h1, bind_ok, if_pos h2, h3, bind_ok, if_pos h4, h5]
theorem body_rt {n : Nat} {lb : LS} {ds : List D} {S S' : Sto} {d : D} (h : lb (ds.map some ++ List.replicate (n - ds.length) none) S = .ok (.rt d) S') : bodyF n lb ds S = .ok d S' := by
  unfold bodyF; rw [h]; rfl
theorem body_nx {n : Nat} {lb : LS} {ds : List D} {ρ : Ev} {S S' : Sto} (h : lb (ds.map some ++ List.replicate (n - ds.length) none) S = .ok (.nx ρ) S') : bodyF n lb ds S = .ok .non S' := by
  unfold bodyF; rw [h]; rfl
theorem and_tt {ta tb : LT} {ρ : Ev} {S S1 : Sto} {r : R Bool} (h : ta ρ S = .ok true S1) (h2 : tb ρ S1 = r) : tAnd ta tb ρ S = r := by
  unfold tAnd; rw [h, bind_ok, if_pos rfl]; exact h2
theorem and_ff {ta tb : LT} {ρ : Ev} {S S1 : Sto} (h : ta ρ S = .ok false S1) : tAnd ta tb ρ S = .ok false S1 := by
  unfold tAnd; rw [h, bind_ok]; rfl
theorem or_tt {ta tb : LT} {ρ : Ev} {S S1 : Sto} (h : ta ρ S = .ok true S1) : tOr ta tb ρ S = .ok true S1 := by
  unfold tOr; rw [h, bind_ok]; rfl
theorem or_ff {ta tb : LT} {ρ : Ev} {S S1 : Sto} {r : R Bool} (h : ta ρ S = .ok false S1) (h2 : tb ρ S1 = r) : tOr ta tb ρ S = r := by
  unfold tOr; rw [h, bind_ok]; exact h2
theorem not_ok {ta : LT} {ρ : Ev} {S S1 : Sto} {b : Bool} (h : ta ρ S = .ok b S1) : tNot ta ρ S = .ok (!b) S1 := by
  unfold tNot; rw [h, bind_ok]
theorem while_go {ρ0 ρ : Ev} {tc : LT} {lb : LS} {n : Nat} {S S1 S2 : Sto} {ρ' : Ev} {r : R Fl} (h : tc ρ S = .ok true S1) (h2 : lb ρ S1 = .ok (.nx ρ') S2) (h3 : whileG ρ0 tc lb n (wk ρ0 ρ') S2 = r) : whileG ρ0 tc lb (n + 1) ρ S = r := by
  unfold whileG; rw [h]; show (lb ρ S1).bind _ = _; rw [h2, bind_ok]; exact h3
theorem while_end {ρ0 ρ : Ev} {tc : LT} {lb : LS} {n : Nat} {S S1 : Sto} (h : tc ρ S = .ok false S1) : whileG ρ0 tc lb (n + 1) ρ S = .ok (.nx ρ) S1 := by
  unfold whileG; rw [h]; rfl
theorem for_go {ρ0 ρ ρ1 ρ' : Ev} {chk : Sto → Prop} {g : GT} {lb : LS} {d : D} {ds : List D} {S S1 : Sto} {r : R Fl} (hc : chk S) (hg : g d ρ = some ρ1) (h : lb ρ1 S = .ok (.nx ρ') S1) (h2 : forG ρ0 chk g lb ds (wk ρ0 ρ') S1 = r) : forG ρ0 chk g lb (d :: ds) ρ S = r := by
  unfold forG; rw [if_pos hc, hg]; show (lb ρ1 S).bind _ = _; rw [h, bind_ok]; exact h2
theorem for_end {ρ0 ρ : Ev} {chk : Sto → Prop} {g : GT} {lb : LS} {S : Sto} (hc : chk S) : forG ρ0 chk g lb [] ρ S = .ok (.nx ρ) S := by
  unfold forG; rw [if_pos hc]
theorem comp_go {ρ0 ρ1 : Ev} {chk : Sto → Prop} {g : GT} {te : LE} {d y : D} {ds ys : List D} {S S1 S2 : Sto} (hc : chk S) (hg : g d ρ0 = some ρ1) (h : te ρ1 S = .ok y S1) (h2 : compG chk g tYesL te ρ0 ds S1 = .ok ys S2) : compG chk g tYesL te ρ0 (d :: ds) S = .ok (y :: ys) S2 := by
  unfold compG; rw [if_pos hc, hg]; show (noex (te ρ1 S)).bind _ = _; rw [h]; show (compG chk g tYesL te ρ0 ds S1).bind _ = _; rw [h2]; rfl
theorem comp_end {ρ0 : Ev} {chk : Sto → Prop} {g : GT} {tt : LT} {te : LE} {S : Sto} (hc : chk S) : compG chk g tt te ρ0 [] S = .ok [] S := by
  unfold compG; rw [if_pos hc]
end MP

namespace MP
open PySem PySem.Spec PyProof.Rows L2
/-! ### more of how the words compute -/
theorem tru_b {l : LE} {ρ : Ev} {S S1 : Sto} {b b' : Bool} (h : l ρ S = .ok (.bl b) S1) (e : b = b') : tTru l ρ S = .ok b' S1 := e ▸ tru_ok h rfl
theorem ix_ref {S : Sto} {j : Nat} {xs : List D} {k : Int} {d : D} (h : S[j]? = some (.lst xs)) (h2 : atI xs k = some d) : gIx S (.ref j) (.int k) = some d := by
  unfold gIx
  have e : vw S (.ref j) = .lst xs := by unfold vw; dsimp only; rw [h]
  rw [e]; exact h2
theorem sub_ok {S : Sto} {j n : Nat} {xs : List D} {k : Int} {d : D} (h : S[j]? = some (.lst xs)) (h2 : ixN xs.length k = some n) : stSeq S (.ref j) (.int k) d = some (S.set j (.lst (xs.set n d))) := by
  unfold stSeq; dsimp only; rw [h]; dsimp only; rw [h2]; rfl
theorem app_ok {S : Sto} {j : Nat} {xs : List D} {d : D} (h : S[j]? = some (.lst xs)) (h2 : xs.length < 1000) : stApp S (.ref j) [d] = some (.non, S.set j (.lst (xs ++ [d]))) := by
  unfold stApp; dsimp only; rw [h]; dsimp only; rw [if_pos (Nat.lt_of_lt_of_le h2 (by decide))]
theorem pop0_ok {S : Sto} {j : Nat} {xs : List D} {d : D} (h : S[j]? = some (.lst (d :: xs))) : stPopAt S (.ref j) [.int 0] = some (d, S.set j (.lst xs)) := by
  unfold stPopAt; dsimp only; rw [h]; dsimp only
  rw [if_pos (by decide)]
  have e : seqIndex? 0 (d :: xs).length = some 0 := by
    have := ixN_seq (n := (d :: xs).length) (i := 0) (j := 0) (by unfold ixN; rw [if_pos (by decide), if_pos (by simp)]; rfl)
    exact this.1
  rw [e]; rfl
theorem ty_lst {S : Sto} {j : Nat} {xs : List D} (h : S[j]? = some (.lst xs)) : isTy "list" S (.ref j) = true := by
  unfold isTy
  have e : vw S (.ref j) = .lst xs := by unfold vw; dsimp only; rw [h]
  rw [e]; rfl
theorem last_at {S : Sto} {o : O} : (S ++ [o])[S.length]? = some o := by simp
theorem last_set {S : Sto} {o o' : O} : (S ++ [o]).set S.length o' = S ++ [o'] := by simp
theorem for_ok {li : LI} {g : GT} {lb : LS} {ρ : Ev} {S S1 : Sto} {it : Its'} {r : R Fl} (h : li ρ S = .ok it S1) (h2 : forG ρ it.chk g lb it.items ρ S1 = r) : lFor li g lb ρ S = r := by
  unfold lFor; rw [h]; exact h2
theorem enum_ok {t : LA} {ρ : Ev} {S S1 : Sto} {xs : List D} (h : t ρ S = .ok [.lst xs] S1) : lEnum t ρ S = .ok ⟨enumD xs, fun _ => True⟩ S1 := by
  unfold lEnum; rw [h, bind_ok]
theorem toPDs_int : ∀ own : List Int, toPDs (own.map D.int) = some (own.map PyData.int)
  | [] => rfl
  | x :: r => by simp [toPDs, toPD, toPDs_int r]
theorem canLay_int : ∀ own : List Int, PyData.canLayAll0 (own.map PyData.int) = true
  | [] => rfl
  | x :: r => by simp [PyData.canLayAll0, PyData.canLay0, canLay_int r]
end MP

namespace MP
open PySem PySem.Spec PyProof.Rows L2
theorem depth_int : ∀ own : List Int, PyData.depthAll (own.map PyData.int) ≤ 1
  | [] => by simp [PyData.depthAll]
  | x :: r => by
    have := depth_int r
    simp only [List.map_cons, PyData.depthAll, PyData.depth]
    omega
theorem shaped_int (own : List Int) : SeqAt.shaped (.list (own.map PyData.int)) = true := by
  unfold SeqAt.shaped
  have h := depth_int own
  have e : (PyData.list (own.map PyData.int)).depth ≤ 64 := by
    simp only [PyData.depth]
    omega
  rw [Bool.and_eq_true]
  exact ⟨by simp only [PyData.canLay0]; exact canLay_int own, decide_eq_true e⟩
theorem eqv_nil (own : List Int) : PyData.eqv (.list (own.map PyData.int)) (.list []) = own.isEmpty := by
  cases own <;> simp [PyData.eqv, PyData.eqvAll]
theorem ne_nil {S : Sto} {i : Nat} {own : List Int} (h : S[i]? = some (.lst (own.map D.int))) : gNe S (.ref i) (.lst []) = some (.bl (!own.isEmpty)) := by
  have e : vw S (.ref i) = .lst (own.map D.int) := by unfold vw; dsimp only; rw [h]
  have e2 : eqP S (.ref i) (.lst []) = some own.isEmpty := by
    unfold eqP
    rw [e]
    have e3 : toPD (.lst (own.map D.int)) = some (.list (own.map PyData.int)) := by simp [toPD, toPDs_int]
    have e4 : toPD (vw S (.lst [])) = some (.list []) := by rfl
    rw [e3, e4]
    show (if SeqAt.shaped (.list (own.map PyData.int)) = true ∧ SeqAt.shaped (.list []) = true then some (PyData.eqv (.list (own.map PyData.int)) (.list [])) else none) = _
    rw [if_pos ⟨shaped_int own, shaped_int []⟩, eqv_nil]
  unfold gNe eqD
  rw [e2]
  rfl

/-! ### the law's own draws: the pot -/
def Pot (n : Int) (S : Sto) (d : D) : Prop := ∃ (j i : Nat) (own : List Int) (seed cnt : Int), d = .ref j ∧ i ≠ j ∧ S[j]? = some (.lst [.ref i, .int seed, .int cnt]) ∧ S[i]? = some (.lst (own.map D.int)) ∧ own.length ≤ 63 ∧ (∀ z ∈ own, 0 ≤ z ∧ z < 10 ^ 120) ∧ 0 ≤ seed ∧ seed < 10 ^ 30 ∧ 0 ≤ cnt ∧ cnt ≤ n
theorem Pot.mono {n n' : Int} {S : Sto} {d : D} (h : Pot n S d) (hn : n ≤ n') : Pot n' S d := by
  obtain ⟨j, i, own, seed, cnt, h1, h2, h3, h4, h5, h6, h7, h8, h9, h10⟩ := h
  exact ⟨j, i, own, seed, cnt, h1, h2, h3, h4, h5, h6, h7, h8, h9, by omega⟩
def SBegin (g : F) : Prop := ∀ (S : Sto) (ns : List Int), ns.length ≤ 63 → ∃ d S', g [.lst (ns.map D.int)] S = .ok d S' ∧ Pot 0 S' d
def STake (g : F) : Prop := ∀ (n : Int) (S : Sto) (d : D) (wd : Int), Pot n S d → n < 10 ^ 30 → 0 < wd → wd < 10 ^ 200 → ∃ v S', g [d, .int wd] S = .ok (.int v) S' ∧ 0 ≤ v ∧ v < wd ∧ Pot (n + 1) S' d
def SOf (g : F) : Prop := ∀ (n : Int) (S : Sto) (d : D) (xs : List D), Pot n S d → n < 10 ^ 30 → xs ≠ [] → xs.length ≤ 1000 → ∃ y S', y ∈ xs ∧ g [d, .lst xs] S = .ok y S' ∧ Pot (n + 1) S' d
theorem of_spec {g : F} (St : STake g) : SOf (bodyF 2 (lRet (lBin gIx (lVar 1) (lCall 2 g [] (aCons (lVar 0) (aCons (lCallB gLen (aCons (lVar 1) aNil)) aNil)))))) := by
  intro n S d xs hp hn hx hl
  have hz : 0 < xs.length := by cases xs with
    | nil => exact absurd rfl hx
    | cons _ _ => simp
  have b2 : (1000 : Int) < 10 ^ 200 := by decide +kernel
  have hb2 : (xs.length : Int) < 10 ^ 200 := by omega
  obtain ⟨v, S', e, h0, h1, hp'⟩ := St n S d (xs.length : Int) hp hn (by omega) hb2
  have hv : v.toNat < xs.length := by omega
  refine ⟨xs[v.toNat], S', List.getElem_mem hv, body_rt (ret_ok (bin_ok rfl (call_ok (acons_ok rfl (acons_ok (callb_ok (acons_ok rfl rfl) rfl) rfl)) rfl e) ?_)), hp'⟩
  show atI xs v = _
  unfold atI ixN
  rw [if_pos h0, if_pos h1]
  exact List.getElem?_eq_getElem hv

/-- the draws begin -/
def begStep : LS := (lSeq
              (lSet 1
                (lBin gMod
                  (lBin gAdd
                    (lBin gAdd (lBin gMulI (lVar 1) (lC (D.int 1000003)))
                      (lBin gMod (lVar 4) (lBin gPow (lC (D.int 10)) (lC (D.int 30)))))
                    (lBin gMulI (lC (D.int 31)) (lVar 3)))
                  (lC (D.int 2305843009213693951))))
              (lIfS (tTru (lBin gGeI (lCallB gAbs (aCons (lVar 4) aNil)) (lBin gPow (lC (D.int 10)) (lC (D.int 18)))))
                (lExpr
                  (lBM "list" stApp (lVar 2)
                    (aCons
                      (lBin gMod (lCallB gAbs (aCons (lVar 4) aNil))
                        (lBin gMulI (lBin gPow (lC (D.int 10)) (lC (D.int 60)))
                          (lBin gPow (lC (D.int 10)) (lC (D.int 60)))))
                      aNil)))
                lNext))
def begG : GT := gtTup 2 (gtCons (gtName 3) (gtCons (gtName 4) gtNil))
theorem beg_step (sc : D) (seed k z : Int) (own : List Int) (S0 : Sto) (h0 : 0 ≤ seed) (h1 : seed < 10 ^ 30) (k0 : 0 ≤ k) (k1 : k < 1000) (hl : own.length < 63) (ho : ∀ z ∈ own, 0 ≤ z ∧ z < 10 ^ 120) :
    ∃ (seed' : Int) (own' : List Int), 0 ≤ seed' ∧ seed' < 10 ^ 30 ∧ own'.length ≤ own.length + 1 ∧ (∀ z ∈ own', 0 ≤ z ∧ z < 10 ^ 120) ∧
      begStep [some sc, some (.int seed), some (.ref S0.length), some (.int k), some (.int z)] (S0 ++ [.lst (own.map D.int)]) = .ok (.nx [some sc, some (.int seed'), some (.ref S0.length), some (.int k), some (.int z)]) (S0 ++ [.lst (own'.map D.int)]) := by
  have p30 : (10 : Int) ^ (30 : Int).toNat = 10 ^ 30 := rfl
  have b30 : (0 : Int) < 10 ^ 30 := by decide +kernel
  have sm1 : Sm seed := Sm.of h0 h1 (by decide +kernel)
  have smk : Sm k := Sm.of k0 k1 (by decide +kernel)
  have smc : ∀ c : Int, 0 ≤ c → c < 10 ^ 120 → Sm c := fun c a b => Sm.of a b (by decide +kernel)
  have hset := set_ok (i := 1) (bin_ok (bin_ok (bin_ok (bin_ok (ρ := [some sc, some (D.int seed), some (D.ref S0.length), some (D.int k), some (D.int z)]) (S := S0 ++ [.lst (own.map D.int)]) (la := lVar 1) (lb := lC (.int 1000003)) rfl rfl (mul_ii sm1 (smc _ (by decide) (by decide +kernel)))) (bin_ok (la := lVar 4) rfl (bin_ok (la := lC (.int 10)) (lb := lC (.int 30)) rfl rfl (pow_ii ⟨by decide, by decide, by decide⟩)) (mod_ii (by rw [p30]; exact b30))) add_ii)
    (bin_ok (la := lC (.int 31)) (lb := lVar 3) rfl rfl (mul_ii (smc _ (by decide) (by decide +kernel)) smk)) add_ii) (lb := lC (.int 2305843009213693951)) rfl (mod_ii (by decide)))
  have m0 := Int.emod_nonneg (seed * 1000003 + z % (10 : Int) ^ (30 : Int).toNat + 31 * k) (b := 2305843009213693951) (by decide)
  have m1 := Int.emod_lt_of_pos (seed * 1000003 + z % (10 : Int) ^ (30 : Int).toNat + 31 * k) (b := 2305843009213693951) (by decide)
  have m2 : (2305843009213693951 : Int) < 10 ^ 30 := by decide +kernel
  generalize hs : (seed * 1000003 + z % (10 : Int) ^ (30 : Int).toNat + 31 * k) % 2305843009213693951 = seed' at hset m0 m1
  have habs : ∀ ρ S, lVar 4 ρ S = .ok (.int z) S → lCallB gAbs (aCons (lVar 4) aNil) ρ S = .ok (.int (if z < 0 then -z else z)) S := fun ρ S h => callb_ok (acons_ok h rfl) rfl
  by_cases hz : (10 : Int) ^ (18 : Int).toNat ≤ (if z < 0 then -z else z)
  · have q0 : (0 : Int) < 10 ^ (60 : Int).toNat * 10 ^ (60 : Int).toNat := by decide +kernel
    have q1 : (10 : Int) ^ (60 : Int).toNat * 10 ^ (60 : Int).toNat = 10 ^ 120 := by decide +kernel
    have s60 : Sm ((10 : Int) ^ (60 : Int).toNat) := ⟨by decide +kernel, by decide +kernel⟩
    refine ⟨seed', own ++ [(if z < 0 then -z else z) % (10 ^ (60 : Int).toNat * 10 ^ (60 : Int).toNat)], m0, by omega, by simp, fun y hy => ?_, ?_⟩
    · rw [List.mem_append, List.mem_singleton] at hy
      rcases hy with hy | rfl
      · exact ho y hy
      · exact ⟨Int.emod_nonneg _ (Int.ne_of_gt q0), by rw [← q1]; exact Int.emod_lt_of_pos _ q0⟩
    · refine seq_nx hset (if_tt (tru_b (bin_ok (habs _ _ rfl) (bin_ok (la := lC (.int 10)) (lb := lC (.int 18)) rfl rfl (pow_ii ⟨by decide, by decide, by decide⟩)) rfl) (decide_eq_true hz)) ?_)
      have ha : lBM "list" stApp (lVar 2) (aCons (lBin gMod (lCallB gAbs (aCons (lVar 4) aNil)) (lBin gMulI (lBin gPow (lC (D.int 10)) (lC (D.int 60))) (lBin gPow (lC (D.int 10)) (lC (D.int 60))))) aNil) [some sc, some (D.int seed'), some (D.ref S0.length), some (D.int k), some (D.int z)] (S0 ++ [.lst (own.map D.int)]) = _ :=
        bm_ok (d := .ref S0.length) rfl (ty_lst last_at) (acons_ok (bin_ok (habs _ _ rfl) (bin_ok (bin_ok (la := lC (.int 10)) (lb := lC (.int 60)) rfl rfl (pow_ii ⟨by decide, by decide, by decide⟩)) (bin_ok (la := lC (.int 10)) (lb := lC (.int 60)) rfl rfl (pow_ii ⟨by decide, by decide, by decide⟩)) (mul_ii s60 s60)) (mod_ii q0)) rfl) (app_ok last_at (by rw [List.length_map]; omega))
      rw [last_set] at ha
      have hx := expr_ok ha
      rw [List.map_append]
      exact hx
  · refine ⟨seed', own, m0, by omega, by omega, ho, ?_⟩
    exact seq_nx hset (if_ff (tru_b (bin_ok (habs _ _ rfl) (bin_ok (la := lC (.int 10)) (lb := lC (.int 18)) rfl rfl (pow_ii ⟨by decide, by decide, by decide⟩)) rfl) (decide_eq_false hz)) rfl)
theorem beg_loop (sc a b : D) (S0 : Sto) : ∀ (items : List D) (own : List Int) (seed : Int) (x y : Option D), (∀ d ∈ items, ∃ k z : Int, d = .tup [.int k, .int z] ∧ 0 ≤ k ∧ k < 1000) → own.length + items.length ≤ 63 → 0 ≤ seed → seed < 10 ^ 30 → (∀ z ∈ own, 0 ≤ z ∧ z < 10 ^ 120) →
    ∃ (seed' : Int) (own' : List Int) (x' y' : Option D), 0 ≤ seed' ∧ seed' < 10 ^ 30 ∧ own'.length ≤ 63 ∧ (∀ z ∈ own', 0 ≤ z ∧ z < 10 ^ 120) ∧
      forG [some sc, some a, some b, none, none] (fun _ => True) begG begStep items [some sc, some (.int seed), some (.ref S0.length), x, y] (S0 ++ [.lst (own.map D.int)]) = .ok (.nx [some sc, some (.int seed'), some (.ref S0.length), x', y']) (S0 ++ [.lst (own'.map D.int)])
  | [], own, seed, x, y, hi, hl, h0, h1, ho => ⟨seed, own, x, y, h0, h1, by simpa using hl, ho, for_end trivial⟩
  | d :: items, own, seed, x, y, hi, hl, h0, h1, ho => by
    obtain ⟨k, z, rfl, k0, k1⟩ := hi d (by simp)
    simp only [List.length_cons] at hl
    obtain ⟨seed', own', s0, s1, sl, so, e⟩ := beg_step sc seed k z own S0 h0 h1 k0 k1 (by omega) ho
    obtain ⟨seed2, own2, x', y', r0, r1, rl, ro, e2⟩ := beg_loop sc a b S0 items own' seed' none none (fun d hd => hi d (by simp [hd])) (by omega) s0 s1 so
    exact ⟨seed2, own2, x', y', r0, r1, rl, ro, for_go trivial rfl e e2⟩
theorem begin_spec : SBegin (bodyF 5 (lSeq (lPar 1 2 (aCons (lBin gAdd (lCallB gLen (aCons (lVar 0) aNil)) (lC (D.int 7))) (aCons (lLstN aNil) aNil)))
        (lSeq
          (lFor (lEnum (aCons (lSlice gSlice (lVar 0) oNone (oSome (lC (D.int 63)))) aNil)) begG begStep)
          (lRet (lLstN (aCons (lVar 2) (aCons (lVar 1) (aCons (lC (D.int 0)) aNil)))))))) := by
  intro S ns hn
  have b30 : (1000 : Int) < 10 ^ 30 := by decide +kernel
  have hcut : (cutD (ns.map D.int) none (some 63)).length ≤ 63 := by
    unfold cutD
    rw [List.length_take, List.length_drop, List.length_map]
    omega
  obtain ⟨seed', own', x', y', r0, r1, rl, ro, e2⟩ := beg_loop (.lst (ns.map D.int)) (.int ((ns.map D.int).length + 7)) (.ref S.length) S (enumD (cutD (ns.map D.int) none (some 63))) [] ((ns.map D.int).length + 7) none none (fun d hd => by
      obtain ⟨i, hi, he⟩ := List.mem_iff_getElem.mp hd
      have h2 : (enumD (cutD (ns.map D.int) none (some 63)))[i]? = some d := by rw [List.getElem?_eq_getElem hi, he]
      obtain ⟨x, hx, rfl⟩ := enumD_get h2
      have hm : x ∈ ns.map D.int := List.mem_of_mem_drop (List.mem_of_mem_take (List.mem_of_getElem? hx))
      obtain ⟨z, _, rfl⟩ := List.mem_map.mp hm
      rw [enumD_length] at hi
      exact ⟨(i : Int), z, rfl, by omega, by omega⟩) (by rw [enumD_length]; simpa using hcut) (by omega) (by rw [List.length_map]; omega) (fun z hz => by simp at hz)
  refine ⟨_, _, body_rt (seq_nx (par_ok (acons_ok (bin_ok (callb_ok (acons_ok rfl rfl) rfl) rfl add_ii) (acons_ok (lstN_ok rfl (by simp)) rfl))) (seq_nx (for_ok (enum_ok rfl) e2) (ret_ok (lstN_ok rfl (by simp))))), ?_⟩
  refine ⟨_, S.length, own', seed', 0, rfl, by simp, last_at, ?_, rl, ro, r0, r1, by omega, by omega⟩
  rw [List.getElem?_append_left (by simp)]
  exact last_at
/-! ### a draw -/
def tkT : LT := (MP.tAnd (tTru (lBin gNe (lBin gIx (lVar 0) (lC (D.int 0))) (lLst aNil)))
            (tTru (lBin gEq (lBin gIx (lBin gIx (lVar 0) (lC (D.int 0))) (lC (D.int 0))) (lC (D.int 0)))))
def tkB : LS := (lExpr (lBM "list" stPopAt (lBin gIx (lVar 0) (lC (D.int 0))) (aCons (lC (D.int 0)) aNil)))
theorem ix0 {n : Nat} : ixN (n + 1) 0 = some 0 := by unfold ixN; rw [if_pos (by decide), if_pos (by omega)]; rfl
theorem at0 {x : D} {xs : List D} : atI (x :: xs) 0 = some x := by unfold atI; rw [List.length_cons, ix0]; rfl
theorem own_at {S : Sto} {j i : Nat} {seed cnt : Int} {ρ : Ev} {wd x y : Option D} (hj : S[j]? = some (.lst [.ref i, .int seed, .int cnt])) : lBin gIx (lVar 0) (lC (.int 0)) [some (.ref j), wd, x, y] S = .ok (.ref i) S := bin_ok (x := .ref j) rfl rfl (ix_ref hj at0)
theorem tk_loop (j i : Nat) (hij : i ≠ j) (seed cnt : Int) (wd : D) : ∀ (own : List Int) (m : Nat) (S : Sto), S[j]? = some (.lst [.ref i, .int seed, .int cnt]) → S[i]? = some (.lst (own.map D.int)) →
    ∃ (own' : List Int) (S' : Sto), own'.length ≤ own.length ∧ (∀ z ∈ own', z ∈ own) ∧ S'[j]? = some (.lst [.ref i, .int seed, .int cnt]) ∧ S'[i]? = some (.lst (own'.map D.int)) ∧
      whileG [some (.ref j), some wd, none, none] tkT tkB (own.length + 1 + m) [some (.ref j), some wd, none, none] S = .ok (.nx [some (.ref j), some wd, none, none]) S'
  | [], m, S, hj, hi => by
    refine ⟨[], S, Nat.le_refl _, fun z h => h, hj, hi, ?_⟩
    have e : ([] : List Int).length + 1 + m = m + 1 := by simp; omega
    rw [e]
    exact while_end (and_ff (tru_b (bin_ok (own_at hj (ρ := [])) (lst_ok rfl (by simp)) (ne_nil hi)) rfl))
  | z :: own, m, S, hj, hi => by
    have e : (z :: own).length + 1 + m = (own.length + 1 + m) + 1 := by simp; omega
    rw [e]
    have h1 : tTru (lBin gNe (lBin gIx (lVar 0) (lC (D.int 0))) (lLst aNil)) [some (.ref j), some wd, none, none] S = .ok true S := tru_b (bin_ok (own_at hj (ρ := [])) (lst_ok rfl (by simp)) (ne_nil hi)) rfl
    have h2 : ∀ b, decide (z = 0) = b → tTru (lBin gEq (lBin gIx (lBin gIx (lVar 0) (lC (D.int 0))) (lC (D.int 0))) (lC (D.int 0))) [some (.ref j), some wd, none, none] S = .ok b S := fun b hb => tru_b (bin_ok (bin_ok (own_at hj (ρ := [])) rfl (ix_ref hi at0)) rfl eq_ii) hb
    by_cases hz : z = 0
    · have hp : tkB [some (.ref j), some wd, none, none] S = .ok (.nx [some (.ref j), some wd, none, none]) (S.set i (.lst (own.map D.int))) :=
        expr_ok (bm_ok (own_at hj (ρ := [])) (ty_lst hi) (acons_ok rfl rfl) (pop0_ok hi))
      have hil : i < S.length := (List.getElem?_eq_some_iff.mp hi).1
      obtain ⟨own', S', r1, r2, r3, r4, r5⟩ := tk_loop j i hij seed cnt wd own m (S.set i (.lst (own.map D.int))) (by rw [List.getElem?_set_ne hij]; exact hj) (by rw [List.getElem?_set_self hil])
      exact ⟨own', S', by simp; omega, fun y hy => List.mem_cons_of_mem _ (r2 y hy), r3, r4, while_go (and_tt h1 (h2 true (decide_eq_true hz))) hp r5⟩
    · exact ⟨z :: own, S, Nat.le_refl _, fun y h => h, hj, hi, while_end (and_tt h1 (h2 false (decide_eq_false hz)))⟩
theorem take_spec : STake (bodyF 4 (lSeq
        (lWhile (2 ^ 4000) tkT tkB)
        (lSeq
          (lIfS (tTru (lBin gNe (lBin gIx (lVar 0) (lC (D.int 0))) (lLst aNil)))
            (lSeq (lSet 2 (lBin gMod (lBin gIx (lBin gIx (lVar 0) (lC (D.int 0))) (lC (D.int 0))) (lVar 1)))
              (lSeq
                (lStS stSeq (lBin gIx (lVar 0) (lC (D.int 0))) (lC (D.int 0))
                  (lBin gDiv (lBin gIx (lBin gIx (lVar 0) (lC (D.int 0))) (lC (D.int 0))) (lVar 1)))
                (lRet (lVar 2))))
            lNext)
          (lSeq (lStS stSeq (lVar 0) (lC (D.int 2)) (lBin gAdd (lBin gIx (lVar 0) (lC (D.int 2))) (lC (D.int 1))))
            (lSeq
              (lSet 3
                (lBin gMod
                  (lBin gMulI
                    (lBin gAdd
                      (lBin gAdd (lBin gIx (lVar 0) (lC (D.int 1)))
                        (lBin gMulI (lBin gMulI (lC (D.int 65537)) (lBin gIx (lVar 0) (lC (D.int 2))))
                          (lBin gIx (lVar 0) (lC (D.int 2)))))
                      (lC (D.int 11)))
                    (lC (D.int 48271)))
                  (lC (D.int 2305843009213693921))))
              (lSeq
                (lSet 3
                  (lBin gMod
                    (lBin gMulI (lVar 3)
                      (lBin gAdd (lBin gMod (lVar 3) (lC (D.int 1000003)))
                        (lBin gMulI (lC (D.int 99991)) (lBin gIx (lVar 0) (lC (D.int 2))))))
                    (lC (D.int 2305843009213693907))))
                (lRet
                  (lBin gMod (lBin gAdd (lBin gDiv (lVar 3) (lC (D.int 97))) (lBin gDiv (lVar 3) (lC (D.int 1000033))))
                    (lVar 1))))))))) := by
  intro n S d wd hp hn w0 w1
  obtain ⟨j, i, own0, seed, cnt, rfl, hij, hj0, hi0, hl0, ho0, s0, s1, c0, c1⟩ := hp
  have hf : own0.length + 1 + (2 ^ 4000 - own0.length - 1) = 2 ^ 4000 := by
    have : 64 < 2 ^ 4000 := by decide +kernel
    omega
  obtain ⟨own, S1, hl, hm, hj, hi, hw⟩ := tk_loop j i hij seed cnt (.int wd) own0 (2 ^ 4000 - own0.length - 1) S hj0 hi0
  rw [hf] at hw
  have ho : ∀ z ∈ own, 0 ≤ z ∧ z < 10 ^ 120 := fun z h => ho0 z (hm z h)
  have smw : Sm wd := Sm.of (by omega) w1 (by decide +kernel)
  cases own with
  | cons z own =>
    obtain ⟨z0, z1⟩ := ho z (by simp)
    have hil : i < S1.length := (List.getElem?_eq_some_iff.mp hi).1
    have hx : ∀ y, lBin gIx (lBin gIx (lVar 0) (lC (D.int 0))) (lC (D.int 0)) [some (.ref j), some (.int wd), y, none] S1 = .ok (.int z) S1 := fun y => bin_ok (bin_ok (x := .ref j) rfl rfl (ix_ref hj at0)) rfl (ix_ref hi at0)
    refine ⟨z % wd, S1.set i (.lst ((D.int (z / wd)) :: own.map D.int)), body_rt (seq_nx hw (seq_rt (if_tt (tru_b (bin_ok (own_at hj (ρ := [])) (lst_ok rfl (by simp)) (ne_nil hi)) rfl) (seq_nx (set_ok (bin_ok (hx none) rfl (mod_ii w0))) (seq_nx (stS_ok (bin_ok (hx _) rfl (div_ii w0 smw)) (bin_ok (x := .ref j) rfl rfl (ix_ref hj at0)) rfl (sub_ok (n := 0) hi (by rw [List.length_map, List.length_cons, ix0]))) (ret_ok rfl)))))), Int.emod_nonneg _ (Int.ne_of_gt w0), Int.emod_lt_of_pos _ w0, ?_⟩
    refine ⟨j, i, (z / wd) :: own, seed, cnt, rfl, hij, by rw [List.getElem?_set_ne hij]; exact hj, by rw [List.getElem?_set_self hil]; rfl, by simp only [List.length_cons] at hl ⊢; omega, fun y hy => ?_, s0, s1, c0, by omega⟩
    rcases List.mem_cons.mp hy with rfl | hy
    · exact ⟨Int.ediv_nonneg z0 (by omega), Int.lt_of_le_of_lt (Int.ediv_le_self _ z0) z1⟩
    · exact ho y (by simp [hy])
  | nil =>
    have hjl : j < S1.length := (List.getElem?_eq_some_iff.mp hj).1
    have b1 : (10 : Int) ^ 30 * 10 ^ 30 = 10 ^ 60 := by decide +kernel
    have sml : ∀ c : Int, 0 ≤ c → c < 10 ^ 100 → Sm c := fun c a b => Sm.of a b (by decide +kernel)
    have e2 : S1.set j (.lst (([.ref i, .int seed, .int cnt] : List D).set 2 (.int (cnt + 1)))) = S1.set j (.lst [.ref i, .int seed, .int (cnt + 1)]) := rfl
    have hj2 : (S1.set j (.lst [.ref i, .int seed, .int (cnt + 1)]))[j]? = some (.lst [.ref i, .int seed, .int (cnt + 1)]) := List.getElem?_set_self hjl
    have hi2 : (S1.set j (.lst [.ref i, .int seed, .int (cnt + 1)]))[i]? = some (.lst (([] : List Int).map D.int)) := by rw [List.getElem?_set_ne (Ne.symm hij)]; exact hi
    have c2 : cnt + 1 ≤ 10 ^ 30 := by omega
    have bb : (0 : Int) < 10 ^ 30 ∧ (10 : Int) ^ 30 < 10 ^ 100 ∧ (65537 : Int) * 10 ^ 30 < 10 ^ 100 ∧ (99991 : Int) * 10 ^ 30 + 1000003 < 10 ^ 100 ∧ (65537 : Int) * 10 ^ 30 * 10 ^ 30 + 10 ^ 30 + 11 < 10 ^ 100 ∧ (2305843009213693921 : Int) < 10 ^ 100 := by decide +kernel
    obtain ⟨bb0, bb1, bb2, bb3, bb4, bb5⟩ := bb
    have scn : Sm (cnt + 1) := sml _ (by omega) (by omega)
    have k0 : (0 : Int) ≤ 65537 * (cnt + 1) := by omega
    have k1 : (65537 : Int) * (cnt + 1) ≤ 65537 * 10 ^ 30 := by omega
    have k2 : (65537 : Int) * (cnt + 1) * (cnt + 1) ≤ 65537 * 10 ^ 30 * 10 ^ 30 := Int.le_trans (Int.mul_le_mul_of_nonneg_right k1 (by omega)) (Int.mul_le_mul_of_nonneg_left c2 (by decide +kernel))
    have k3 : (0 : Int) ≤ 65537 * (cnt + 1) * (cnt + 1) := Int.mul_nonneg k0 (by omega)
    have cx : ∀ y z, lBin gIx (lVar 0) (lC (D.int 2)) [some (.ref j), some (.int wd), y, z] (S1.set j (.lst [.ref i, .int seed, .int (cnt + 1)])) = .ok (.int (cnt + 1)) (S1.set j (.lst [.ref i, .int seed, .int (cnt + 1)])) := fun y z => bin_ok (x := .ref j) rfl rfl (ix_ref hj2 rfl)
    have sx : ∀ y z, lBin gIx (lVar 0) (lC (D.int 1)) [some (.ref j), some (.int wd), y, z] (S1.set j (.lst [.ref i, .int seed, .int (cnt + 1)])) = .ok (.int seed) (S1.set j (.lst [.ref i, .int seed, .int (cnt + 1)])) := fun y z => bin_ok (x := .ref j) rfl rfl (ix_ref hj2 rfl)
    have g1 := set_ok (i := 3) (bin_ok (bin_ok (bin_ok (bin_ok (sx none none) (bin_ok (bin_ok (la := lC (.int 65537)) rfl (cx none none) (mul_ii (sml _ (by decide) (by decide +kernel)) scn)) (cx none none) (mul_ii (sml _ k0 (by omega)) scn)) add_ii) (lb := lC (.int 11)) rfl add_ii) (lb := lC (.int 48271)) rfl (mul_ii (sml _ (by omega) (by omega)) (sml _ (by decide) (by decide +kernel)))) (lb := lC (.int 2305843009213693921)) rfl (mod_ii (by decide)))
    have m0 := Int.emod_nonneg ((seed + 65537 * (cnt + 1) * (cnt + 1) + 11) * 48271) (b := 2305843009213693921) (by decide)
    have m1 := Int.emod_lt_of_pos ((seed + 65537 * (cnt + 1) * (cnt + 1) + 11) * 48271) (b := 2305843009213693921) (by decide)
    generalize (seed + 65537 * (cnt + 1) * (cnt + 1) + 11) * 48271 % 2305843009213693921 = mx at g1 m0 m1
    have t0 := Int.emod_nonneg mx (b := 1000003) (by decide)
    have t1 := Int.emod_lt_of_pos mx (b := 1000003) (by decide)
    have g2 := set_ok (i := 3) (bin_ok (bin_ok (ρ := [some (.ref j), some (.int wd), none, some (.int mx)]) (la := lVar 3) rfl (bin_ok (bin_ok (la := lVar 3) (lb := lC (.int 1000003)) rfl rfl (mod_ii (by decide))) (bin_ok (la := lC (.int 99991)) rfl (cx none _) (mul_ii (sml _ (by decide) (by decide +kernel)) scn)) add_ii) (mul_ii (sml _ m0 (by omega)) (sml _ (by omega) (by omega)))) (lb := lC (.int 2305843009213693907)) rfl (mod_ii (by decide)))
    generalize mx * (mx % 1000003 + 99991 * (cnt + 1)) % 2305843009213693907 = my at g2
    have g3 : lRet (lBin gMod (lBin gAdd (lBin gDiv (lVar 3) (lC (D.int 97))) (lBin gDiv (lVar 3) (lC (D.int 1000033)))) (lVar 1)) [some (.ref j), some (.int wd), none, some (.int my)] (S1.set j (.lst [.ref i, .int seed, .int (cnt + 1)])) = .ok (.rt (.int ((my / 97 + my / 1000033) % wd))) _ :=
      ret_ok (bin_ok (bin_ok (bin_ok rfl rfl (div_ii (by decide) (sml _ (by decide) (by decide +kernel)))) (bin_ok rfl rfl (div_ii (by decide) (sml _ (by decide) (by decide +kernel)))) add_ii) rfl (mod_ii w0))
    refine ⟨(my / 97 + my / 1000033) % wd, _, body_rt (seq_nx hw (seq_nx (if_ff (tru_b (bin_ok (own_at hj (ρ := [])) (lst_ok rfl (by simp)) (ne_nil hi)) rfl) rfl) (seq_nx (stS_ok (bin_ok (bin_ok (x := .ref j) rfl rfl (ix_ref hj rfl)) rfl add_ii) rfl rfl (sub_ok (n := 2) hj rfl)) (seq_nx g1 (seq_nx g2 g3))))), Int.emod_nonneg _ (Int.ne_of_gt w0), Int.emod_lt_of_pos _ w0, ?_⟩
    exact ⟨j, i, [], seed, cnt + 1, rfl, hij, hj2, hi2, by simp, fun z h => by simp at h, s0, s1, by omega, by omega⟩
end MP

namespace MP
open PySem PySem.Spec PyProof.Rows L2
theorem comp_ok {li : LI} {ix : List Nat} {g : GT} {tt : LT} {te : LE} {ρ : Ev} {S S1 S2 : Sto} {it : Its'} {ys : List D} (h : li ρ S = .ok it S1) (hl : it.items.length ≤ 1000) (h2 : compG it.chk g tt te (wipeE ρ ix) it.items S1 = .ok ys S2) : lComp li ix g tt te ρ S = .ok (.lst ys) S2 := by
  unfold lComp compL
  rw [h, bind_ok, if_pos (Nat.le_trans hl (by decide)), h2, bind_ok]
theorem comp_all {chk : Sto → Prop} {g : GT} {te : LE} {ρ0 : Ev} {f : D → D} {S : Sto} (hc : chk S) : ∀ items : List D, (∀ d ∈ items, ∃ ρ1, g d ρ0 = some ρ1 ∧ te ρ1 S = .ok (f d) S) → compG chk g tYesL te ρ0 items S = .ok (items.map f) S
  | [], _ => comp_end hc
  | d :: items, h => by
    obtain ⟨ρ1, h1, h2⟩ := h d (by simp)
    exact comp_go hc h1 h2 (comp_all hc items fun d hd => h d (by simp [hd]))
theorem for_const {chk : Sto → Prop} {g : GT} {lb : LS} {ρ0 : Ev} {S : Sto} (hc : chk S) : ∀ items : List D, (∀ d ∈ items, ∃ ρ1 ρ', g d ρ0 = some ρ1 ∧ lb ρ1 S = .ok (.nx ρ') S ∧ wk ρ0 ρ' = ρ0) → forG ρ0 chk g lb items ρ0 S = .ok (.nx ρ0) S
  | [], _ => for_end hc
  | d :: items, h => by
    obtain ⟨ρ1, ρ', h1, h2, h3⟩ := h d (by simp)
    refine for_go hc h1 h2 ?_
    rw [h3]
    exact for_const hc items fun d hd => h d (by simp [hd])
theorem for_inv {chk : Sto → Prop} {g : GT} {lb : LS} {ρ0 : Ev} {I : Nat → Sto → Prop} (hc : ∀ S, chk S) : ∀ (items : List D) (k : Nat) (S : Sto), I k S → (∀ d ∈ items, ∀ k S, I k S → ∃ ρ1 ρ' S', g d ρ0 = some ρ1 ∧ lb ρ1 S = .ok (.nx ρ') S' ∧ wk ρ0 ρ' = ρ0 ∧ I (k + 1) S') →
    ∃ S', forG ρ0 chk g lb items ρ0 S = .ok (.nx ρ0) S' ∧ I (k + items.length) S'
  | [], k, S, hI, _ => ⟨S, for_end (hc S), hI⟩
  | d :: items, k, S, hI, h => by
    obtain ⟨ρ1, ρ', S1, h1, h2, h3, h4⟩ := h d (by simp) k S hI
    obtain ⟨S2, h5, h6⟩ := for_inv hc items (k + 1) S1 h4 fun d hd => h d (by simp [hd])
    refine ⟨S2, ?_, by rw [List.length_cons, ← Nat.add_assoc, Nat.add_right_comm]; exact h6⟩
    refine for_go (hc S) h1 h2 ?_
    rw [h3]
    exact h5
theorem bls_true (xs : List D) : blsOf (xs.map fun _ => D.bl true) = some (xs.map fun _ => true) := by
  induction xs with
  | nil => rfl
  | cons x r ih => simp [blsOf, ih]
theorem all_true {S : Sto} (xs : List D) : gAll S [.lst (xs.map fun _ => D.bl true)] = some (.bl true) := by
  show (blsOf (xs.map fun _ => D.bl true)).map (fun bs => D.bl (bs.all id)) = _
  rw [bls_true]
  simp
theorem iter_ok {l : LE} {ρ : Ev} {S S1 : Sto} {d : D} {it : Its'} (h : l ρ S = .ok d S1) (h2 : iterOf S1 d = some it) : lIter l ρ S = .ok it S1 := by
  unfold lIter; rw [h, bind_ok, h2]; rfl
/-- a law: its pot, its turns, True -/
theorem shell {n : Nat} {l1 l3 : LS} {li : LI} {g : GT} {lb : LS} {ds : List D} {S S1 : Sto} {ρ1 : Ev} {it : Its'} {d : D} {I : Nat → Sto → Prop} (h1 : l1 (ds.map some ++ List.replicate (n - ds.length) none) S = .ok (.nx ρ1) S1) (h2 : li ρ1 S1 = .ok it S1) (hc : ∀ S, it.chk S) (h0 : I 0 S1)
    (ht : ∀ d ∈ it.items, ∀ k S, I k S → k < it.items.length → ∃ ρ2 ρ' S', g d ρ1 = some ρ2 ∧ lb ρ2 S = .ok (.nx ρ') S' ∧ wk ρ1 ρ' = ρ1 ∧ I (k + 1) S') (h3 : ∀ S, l3 ρ1 S = .ok (.rt d) S) :
    ∃ S', bodyF n (lSeq l1 (lSeq (lFor li g lb) l3)) ds S = .ok d S' := by
  have key : ∀ (items : List D) (k : Nat) (S : Sto), I k S → (∀ d ∈ items, d ∈ it.items) → k + items.length = it.items.length → ∃ S', forG ρ1 it.chk g lb items ρ1 S = .ok (.nx ρ1) S' := by
    intro items
    induction items with
    | nil => exact fun k S hI _ _ => ⟨S, for_end (hc S)⟩
    | cons d items ih =>
      intro k S hI hm hk
      simp only [List.length_cons] at hk
      obtain ⟨ρ2, ρ', S1, h1, h2, h3, h4⟩ := ht d (hm d (by simp)) k S hI (by omega)
      obtain ⟨S2, h5⟩ := ih (k + 1) S1 h4 (fun d hd => hm d (by simp [hd])) (by omega)
      exact ⟨S2, for_go (hc S) h1 h2 (by rw [h3]; exact h5)⟩
  obtain ⟨S2, e⟩ := key it.items 0 S1 h0 (fun _ h => h) (by omega)
  exact ⟨S2, body_rt (seq_nx h1 (seq_nx (for_ok h2 e) (h3 S2)))⟩
end MP

namespace MP
open PySem PySem.Spec PyProof.Rows L2

/-! ### dicts -/
def keyOf : D → Option Key
  | .int i => some (.inl i)
  | .str s => some (.inr s)
  | _ => none
def keysOf : List D → Option (List Key)
  | [] => some []
  | x :: r => (keyOf x).bind fun k => (keysOf r).map fun ks => k :: ks
/-- a key of a dict; t: its keys are tuples -/
def kOf (t : Bool) (d : D) : Option (List Key) := match t with
  | false => (keyOf d).map fun k => [k]
  | true => match d with
    | .tup xs => keysOf xs
    | _ => none
def kD (t : Bool) (ks : List Key) : D := match t with
  | false => match ks with
    | k :: _ => keyD k
    | [] => .non
  | true => .tup (ks.map keyD)
def lookD (t : Bool) : List (D × D) → List Key → Option D
  | [], _ => none
  | (x, d) :: r, ks => if kOf t x = some ks then some d else lookD t r ks
def putDD (t : Bool) (kvs : List (D × D)) (ks : List Key) (d : D) : List (D × D) := if (lookD t kvs ks).isSome = true then kvs.map (fun q => if kOf t q.1 = some ks then (q.1, d) else q) else kvs ++ [(kD t ks, d)]
theorem keyOf_keyD (k : Key) : keyOf (keyD k) = some k := by cases k <;> rfl
theorem keysOf_map : ∀ ks : List Key, keysOf (ks.map keyD) = some ks
  | [] => rfl
  | k :: ks => by simp [keysOf, keyOf_keyD, keysOf_map ks]
theorem keyOf_inv {d : D} {k : Key} (h : keyOf d = some k) : d = keyD k := by
  cases d <;> simp only [keyOf] at h <;> cases h <;> rfl
theorem keysOf_inv : ∀ {ds : List D} {ks : List Key}, keysOf ds = some ks → ds = ks.map keyD
  | [], ks, h => by simp only [keysOf] at h; cases h; rfl
  | x :: r, ks, h => by
    simp only [keysOf] at h
    cases q : keyOf x with
    | none => rw [q] at h; cases h
    | some k =>
      rw [q] at h
      cases q2 : keysOf r with
      | none => rw [q2] at h; cases h
      | some ks' =>
        rw [q2] at h
        cases h
        rw [keyOf_inv q, keysOf_inv q2]
        rfl
theorem kOf_kD {t : Bool} {d : D} {ks : List Key} (h : kOf t d = some ks) : d = kD t ks := by
  cases t with
  | false =>
    simp only [kOf] at h
    cases q : keyOf d with
    | none => rw [q] at h; cases h
    | some k => rw [q] at h; cases h; exact keyOf_inv q
  | true =>
    simp only [kOf] at h
    cases d with
    | tup xs => rw [show kD true ks = .tup (ks.map keyD) from rfl, ← keysOf_inv h]
    | _ => cases h
section
variable {K : PySem.W.Frag} {m : List Addr} {H : Hp}
theorem VR.key {v : V} {d : D} {k : Key} (r : VR K m H v d) (h : keyOf d = some k) : v = kV k := by
  have e := keyOf_inv h
  subst e
  cases k with
  | inl i => cases r; rfl
  | inr s => cases r; rfl
theorem VRs.keys : ∀ {vs : List V} {ks : List Key}, VRs K m H vs (ks.map keyD) → vs = ks.map kV
  | _, [], .nil => rfl
  | _, k :: ks, .cons h r => by rw [h.key (keyOf_keyD k), r.keys]; rfl
theorem kf1 {k k' : Key} : kOf false (keyD k') = some [k] ↔ k' = k := by
  show (keyOf (keyD k')).map (fun k => [k]) = some [k] ↔ _
  rw [keyOf_keyD]
  simp
theorem kf2 {k k' : List Key} : kOf true (.tup (k'.map keyD)) = some k ↔ k' = k := by
  show keysOf (k'.map keyD) = some k ↔ _
  rw [keysOf_map]
  simp
theorem VDk.look {vs : List (Key × V)} {ds : List (D × D)} (r : VDk K m H vs ds) (k : Key) : (∀ d, lookD false ds [k] = some d → ∃ v, valV vs k = some v ∧ VR K m H v d) ∧ (lookD false ds [k] = none → valV vs k = none) := by
  induction vs generalizing ds with
  | nil => cases r; exact ⟨fun d h => by simp [lookD] at h, fun _ => rfl⟩
  | cons p vs ih =>
    cases r with
    | @cons k' v d vs ds h r =>
      simp only [lookD]
      by_cases e : k' = k
      · rw [if_pos (kf1.mpr e), valV_pos (p := (k', v)) e]
        exact ⟨fun d' z => by cases z; exact ⟨v, rfl, h⟩, fun z => by cases z⟩
      · rw [if_neg (fun z => e (kf1.mp z)), valV_neg (p := (k', v)) e]
        exact ih r
theorem VDt.look {vs : List (List Key × V)} {ds : List (D × D)} (r : VDt K m H vs ds) (k : List Key) : (∀ d, lookD true ds k = some d → ∃ v, valV vs k = some v ∧ VR K m H v d) ∧ (lookD true ds k = none → valV vs k = none) := by
  induction vs generalizing ds with
  | nil => cases r; exact ⟨fun d h => by simp [lookD] at h, fun _ => rfl⟩
  | cons p vs ih =>
    cases r with
    | @cons k' v d vs ds h r =>
      simp only [lookD]
      by_cases e : k' = k
      · rw [if_pos (kf2.mpr e), valV_pos (p := (k', v)) e]
        exact ⟨fun d' z => by cases z; exact ⟨v, rfl, h⟩, fun z => by cases z⟩
      · rw [if_neg (fun z => e (kf2.mp z)), valV_neg (p := (k', v)) e]
        exact ih r
theorem VDk.some_iff {vs : List (Key × V)} {ds : List (D × D)} (r : VDk K m H vs ds) (k : Key) : (lookD false ds [k]).isSome = (valV vs k).isSome := by
  obtain ⟨h1, h2⟩ := r.look k
  cases q : lookD false ds [k] with
  | none => rw [h2 q]; rfl
  | some d => obtain ⟨v, e, _⟩ := h1 d q; rw [e]; rfl
theorem VDt.some_iff {vs : List (List Key × V)} {ds : List (D × D)} (r : VDt K m H vs ds) (k : List Key) : (lookD true ds k).isSome = (valV vs k).isSome := by
  obtain ⟨h1, h2⟩ := r.look k
  cases q : lookD true ds k with
  | none => rw [h2 q]; rfl
  | some d => obtain ⟨v, e, _⟩ := h1 d q; rw [e]; rfl
theorem VDk.mapP {v : V} {d : D} (k : Key) (h : VR K m H v d) : ∀ {vs : List (Key × V)} {ds : List (D × D)}, VDk K m H vs ds → VDk K m H (vs.map fun kv => if kv.1 = k then (kv.1, v) else kv) (ds.map fun q => if kOf false q.1 = some [k] then (q.1, d) else q)
  | _, _, .nil => .nil
  | _, _, @VDk.cons _ _ _ k' w e vs ds h' r => by
    simp only [List.map_cons]
    by_cases z : k' = k
    · rw [if_pos z, if_pos (kf1.mpr z)]; exact .cons h (r.mapP k h)
    · rw [if_neg z, if_neg (fun y => z (kf1.mp y))]; exact .cons h' (r.mapP k h)
theorem VDt.mapP {v : V} {d : D} (k : List Key) (h : VR K m H v d) : ∀ {vs : List (List Key × V)} {ds : List (D × D)}, VDt K m H vs ds → VDt K m H (vs.map fun kv => if kv.1 = k then (kv.1, v) else kv) (ds.map fun q => if kOf true q.1 = some k then (q.1, d) else q)
  | _, _, .nil => .nil
  | _, _, @VDt.cons _ _ _ k' w e vs ds h' r => by
    simp only [List.map_cons]
    by_cases z : k' = k
    · rw [if_pos z, if_pos (kf2.mpr z)]; exact .cons h (r.mapP k h)
    · rw [if_neg z, if_neg (fun y => z (kf2.mp y))]; exact .cons h' (r.mapP k h)
theorem VDk.snoc {v : V} {d : D} (k : Key) (h : VR K m H v d) : ∀ {vs : List (Key × V)} {ds : List (D × D)}, VDk K m H vs ds → VDk K m H (vs ++ [(k, v)]) (ds ++ [(keyD k, d)])
  | _, _, .nil => .cons h .nil
  | _, _, .cons h' r => .cons h' (r.snoc k h)
theorem VDt.snoc {v : V} {d : D} (k : List Key) (h : VR K m H v d) : ∀ {vs : List (List Key × V)} {ds : List (D × D)}, VDt K m H vs ds → VDt K m H (vs ++ [(k, v)]) (ds ++ [(.tup (k.map keyD), d)])
  | _, _, .nil => .cons h .nil
  | _, _, .cons h' r => .cons h' (r.snoc k h)
theorem VDk.put {v : V} {d : D} (k : Key) (h : VR K m H v d) {vs : List (Key × V)} {ds : List (D × D)} (r : VDk K m H vs ds) : VDk K m H (putK vs k v) (putDD false ds [k] d) := by
  unfold putK putDD
  rw [r.some_iff k, valV_any]
  by_cases z : (valV vs k).isSome = true
  · rw [if_pos z, if_pos z]; exact r.mapP k h
  · rw [if_neg z, if_neg z]; exact r.snoc k h
theorem VDt.put {v : V} {d : D} (k : List Key) (h : VR K m H v d) {vs : List (List Key × V)} {ds : List (D × D)} (r : VDt K m H vs ds) : VDt K m H (putK vs k v) (putDD true ds k d) := by
  unfold putK putDD
  rw [r.some_iff k, valV_any]
  by_cases z : (valV vs k).isSome = true
  · rw [if_pos z, if_pos z]; exact r.mapP k h
  · rw [if_neg z, if_neg z]; exact r.snoc k h
theorem VDk.length {vs : List (Key × V)} {ds : List (D × D)} : VDk K m H vs ds → vs.length = ds.length
  | .nil => rfl
  | .cons _ r => by simp [r.length]
theorem VDt.length {vs : List (List Key × V)} {ds : List (D × D)} : VDt K m H vs ds → vs.length = ds.length
  | .nil => rfl
  | .cons _ r => by simp [r.length]
variable {S : Sto}
/-- a dict, of the store or not -/
theorem vw_dct (x : SR K m H S) {v : V} {d : D} {t : Bool} {kvs : List (D × D)} (r : VR K m H v d) (e : vw S d = .dct t kvs) : ∃ a, v = .ref a ∧ ((t = false ∧ ∃ vs, H a = some (.dK vs) ∧ VDk K m H vs kvs) ∨ (t = true ∧ ∃ vs, H a = some (.dT vs) ∧ VDt K m H vs kvs)) := by
  cases r with
  | @ref i a h =>
    dsimp only [vw] at e
    cases q : S[i]? with
    | none => rw [q] at e; cases e
    | some ob =>
      rw [q] at e
      cases x.at_ i a ob h q with
      | lst _ _ => cases e
      | ins _ _ => cases e
      | dct h r => cases e; exact ⟨a, rfl, .inl ⟨rfl, _, h, r⟩⟩
      | dctT h r => cases e; exact ⟨a, rfl, .inr ⟨rfl, _, h, r⟩⟩
  | dct n h r => cases e; exact ⟨_, rfl, .inl ⟨rfl, _, h, r⟩⟩
  | dctT n h r => cases e; exact ⟨_, rfl, .inr ⟨rfl, _, h, r⟩⟩
  | _ => cases e
theorem dget_of (x : SR K m H S) {v y : V} {d dy : D} {t : Bool} {kvs : List (D × D)} {ks : List Key} (r : VR K m H v d) (e : vw S d = .dct t kvs) (ry : VR K m H y dy) (hk : kOf t dy = some ks) :
    ∃ a o, v = .ref a ∧ DGet H a y o ∧ (∀ d', lookD t kvs ks = some d' → ∃ v', o = some v' ∧ VR K m H v' d') ∧ (lookD t kvs ks = none → o = none) := by
  obtain ⟨a, rfl, h⟩ := vw_dct x r e
  rcases h with ⟨rfl, vs, h, rr⟩ | ⟨rfl, vs, h, rr⟩
  · simp only [kOf] at hk
    cases q : keyOf dy with
    | none => rw [q] at hk; cases hk
    | some k =>
      rw [q] at hk
      cases hk
      obtain rfl := ry.key q
      obtain ⟨h1, h2⟩ := rr.look k
      exact ⟨a, _, rfl, .k h, h1, h2⟩
  · simp only [kOf] at hk
    cases ry with
    | @tup b ws ds hb rs =>
      dsimp only at hk
      have e2 := keysOf_inv hk
      subst e2
      obtain rfl := rs.keys
      obtain ⟨h1, h2⟩ := rr.look ks
      exact ⟨a, _, rfl, .t h hb, h1, h2⟩
    | _ => cases hk
end
section
variable {X : Cx}
def gDix : G2 := fun S x y => match vw S x with
  | .dct t kvs => (kOf t y).bind fun ks => lookD t kvs ks
  | _ => none
theorem ixl_dct (hu : X.A.units + 64 < cLine) : IxL X gDix := ⟨fun value slice pins s σ H m S x y dx dy d v u I q rx ry ex ey e hs => by
  unfold gDix at e
  split at e
  · rename_i t kvs qv
    cases hk : kOf t dy with
    | none => rw [hk] at e; cases e
    | some ks =>
      rw [hk] at e
      obtain ⟨a, o, rfl, g, h1, h2⟩ := dget_of q rx qv ry hk
      obtain ⟨v', rfl, w⟩ := h1 d e
      obtain rfl : v = Value.ref a := ex
      exact tail_any (dict_typeIs I g) PySem.F.slot_dict_getitem.lookup (d_getItem (by omega) I g ey fun w' s' I' rw' => ⟨v', H, m, I', rw', Ext.refl, q, w⟩) (hs _ _)
  · cases e⟩
def gDin : G2 := fun S y x => match vw S x with
  | .dct t kvs => (kOf t y).map fun ks => .bl (lookD t kvs ks).isSome
  | _ => none
def gDnotin : G2 := fun S y x => match vw S x with
  | .dct t kvs => (kOf t y).map fun ks => .bl (!(lookD t kvs ks).isSome)
  | _ => none
theorem opl_din (hu : X.A.units + 64 < cLine) : OpL X (compareOp .In) gDin := ⟨fun pins s σ H m S y x dy dx d u v I q ry rx ey ex e => by
  unfold gDin at e
  split at e
  · rename_i t kvs qv
    cases hk : kOf t dy with
    | none => rw [hk] at e; cases e
    | some ks =>
      rw [hk] at e
      cases e
      obtain ⟨a, o, rfl, g, h1, h2⟩ := dget_of q rx qv ry hk
      obtain rfl : v = Value.ref a := ex
      have e2 : o.isSome = (lookD t kvs ks).isSome := by
        cases z : lookD t kvs ks with
        | none => rw [h2 z]; rfl
        | some d' => obtain ⟨v', rfl, _⟩ := h1 d' z; rfl
      exact d_in (by omega) I g ey fun s' I' => ⟨.bl o.isSome, H, m, I', rfl, Ext.refl, q, by rw [e2]; exact .bl _⟩
  · cases e⟩
theorem opl_dnotin (hu : X.A.units + 64 < cLine) : OpL X (compareOp .NotIn) gDnotin := ⟨fun pins s σ H m S y x dy dx d u v I q ry rx ey ex e => by
  unfold gDnotin at e
  split at e
  · rename_i t kvs qv
    cases hk : kOf t dy with
    | none => rw [hk] at e; cases e
    | some ks =>
      rw [hk] at e
      cases e
      obtain ⟨a, o, rfl, g, h1, h2⟩ := dget_of q rx qv ry hk
      obtain rfl : v = Value.ref a := ex
      have e2 : o.isSome = (lookD t kvs ks).isSome := by
        cases z : lookD t kvs ks with
        | none => rw [h2 z]; rfl
        | some d' => obtain ⟨v', rfl, _⟩ := h1 d' z; rfl
      exact d_notIn (by omega) I g ey fun s' I' => ⟨.bl (!o.isSome), H, m, I', rfl, Ext.refl, q, by rw [e2]; exact .bl _⟩
  · cases e⟩
def stDct (S : Sto) (r i d : D) : Option Sto := match r with
  | .ref j => match S[j]? with
    | some (.dct t kvs) => if kvs.length < sizeLine then (kOf t i).map fun ks => S.set j (.dct t (putDD t kvs ks d)) else none
    | _ => none
  | _ => none
theorem psetl_dct (hu : X.A.units + 64 < cLine) : PSetL X stDct := ⟨fun pins s σ H m S S' o i v d1 d2 d3 ov iv u I x r1 r2 r3 e1 e2 e3 q => by
  unfold stDct at q
  split at q
  · rename_i j
    split at q
    · rename_i t kvs q1
      split at q
      · rename_i hz
        cases hk : kOf t d2 with
        | none => rw [hk] at q; cases q
        | some ks =>
          rw [hk] at q
          cases q
          obtain ⟨a, rfl, ha, orr⟩ := VR.ref_at x r1 q1
          obtain rfl : ov = Value.ref a := e1
          cases orr with
          | @dct vs _ hh rr =>
            simp only [kOf] at hk
            cases qk : keyOf d2 with
            | none => rw [qk] at hk; cases hk
            | some k =>
              rw [qk] at hk
              cases hk
              obtain rfl := r2.key qk
              obtain ⟨z1, z2⟩ := x.write (o' := .dK (putK vs k v)) (ob' := .dct false (putDD false kvs [k] d3)) ha fun e => .dct upd_same ((rr.put k r3).ext e x.muts)
              exact d_setItem (by omega) I (.k hh (by rw [rr.length]; exact hz)) e2 e3 fun s' I' => ⟨_, m, I', z1, z2⟩
          | @dctT vs _ hh rr =>
            simp only [kOf] at hk
            cases r2 with
            | @tup b ws ds hb rs =>
              dsimp only at hk
              have e2' := keysOf_inv hk
              subst e2'
              obtain rfl := rs.keys
              obtain ⟨z1, z2⟩ := x.write (o' := .dT (putK vs ks v)) (ob' := .dct true (putDD true kvs ks d3)) ha fun e => .dctT upd_same ((rr.put ks r3).ext e x.muts)
              exact d_setItem (by omega) I (.t hh hb (by rw [rr.length]; exact hz)) e2 e3 fun s' I' => ⟨_, m, I', z1, z2⟩
            | _ => cases hk
      · cases q
    · cases q
  · cases q⟩
/-- {} -/
def lDctN (t : Bool) : LE := fun _ S => .ok (.ref S.length) (S ++ [.dct t []])
def lDct (t : Bool) : LE := fun _ S => .ok (.dct t []) S
theorem pel_dctNK {pos : Pos} : PEL X (.Dict [] [] pos) (lDctN false) := .of_pe pe_dnewK fun σ H m ρ S x er hp p hn => by
  obtain ⟨e, x'⟩ := x.snoc (o := .dK []) (ob := .dct false []) hn fun m' H' _ q => .dct q .nil
  exact ⟨_, _, rfl, _, e, x', .ref (by rw [← x.len]; simp)⟩
theorem pel_dctNT {pos : Pos} : PEL X (.Dict [] [] pos) (lDctN true) := .of_pe pe_dnewT fun σ H m ρ S x er hp p hn => by
  obtain ⟨e, x'⟩ := x.snoc (o := .dT []) (ob := .dct true []) hn fun m' H' _ q => .dctT q .nil
  exact ⟨_, _, rfl, _, e, x', .ref (by rw [← x.len]; simp)⟩
theorem pel_dctK {pos : Pos} : PEL X (.Dict [] [] pos) (lDct false) := .of_pe pe_dnewK fun σ H m ρ S x er hp p hn => ⟨_, _, rfl, qv_new x hn (.dct (x.nin hn) upd_same .nil)⟩
theorem pel_dctT {pos : Pos} : PEL X (.Dict [] [] pos) (lDct true) := .of_pe pe_dnewT fun σ H m ρ S x er hp p hn => ⟨_, _, rfl, qv_new x hn (.dctT (x.nin hn) upd_same .nil)⟩
end
end MP

namespace MP
open PySem PySem.Spec PyProof.Rows L2

/-! ### sorted -/
def encD (d : D) : PyData := (toPD d).getD .none
def leD (a b : D) : Bool := PySem.W.dataLe false encD a b
def headT : PyData → Bool
  | .tuple (_ :: _) => true
  | _ => false
def plainT : PyData → Bool
  | .none => false
  | .tuple _ => false
  | _ => true
def srtOk (xs : List D) : Bool := xs.all (fun x => (toPD x).isSome) && (xs.all fun x => xs.all fun y => PySem.W.alike (encD x) (encD y)) && (xs.all (fun x => headT (encD x)) || xs.all fun x => plainT (encD x)) && xs.all (fun x => decide ((encD x).depth ≤ 50)) && decide (xs.length ≤ sizeLine)
theorem srtOk_inv {xs : List D} (h : srtOk xs = true) : (∀ x ∈ xs, toPD x = some (encD x)) ∧ PySem.W.AllAlike (xs.map encD) ∧ PySem.W.Sortable (xs.map encD) ∧ (∀ x ∈ xs, (encD x).depth ≤ 50) ∧ xs.length ≤ sizeLine := by
  unfold srtOk at h
  simp only [Bool.and_eq_true, List.all_eq_true, decide_eq_true_eq, Bool.or_eq_true] at h
  obtain ⟨⟨⟨⟨h1, h2⟩, h3⟩, h4⟩, h5⟩ := h
  refine ⟨fun x hx => ?_, fun d hd d' hd' => ?_, ?_, h4, h5⟩
  · unfold encD
    cases q : toPD x with
    | none => have := h1 x hx; rw [q] at this; cases this
    | some p => rfl
  · obtain ⟨x, hx, rfl⟩ := List.mem_map.mp hd
    obtain ⟨y, hy, rfl⟩ := List.mem_map.mp hd'
    exact h2 x hx y hy
  · rcases h3 with h3 | h3
    · refine .inl fun d hd => ?_
      obtain ⟨x, hx, rfl⟩ := List.mem_map.mp hd
      have := h3 x hx
      unfold headT at this
      split at this
      · exact ⟨_, _, ‹_›⟩
      · cases this
    · refine .inr fun d hd => ?_
      obtain ⟨x, hx, rfl⟩ := List.mem_map.mp hd
      have := h3 x hx
      refine ⟨fun z => ?_, fun ys z => ?_⟩
      · rw [z] at this; cases this
      · rw [z] at this; cases this
def IsV (K : PySem.W.Frag) (m : List Addr) (H : Hp) (v : Value) (d : D) : Prop := ∃ x, RelV x v ∧ VR K m H x d
theorem each_isV {K : PySem.W.Frag} {m : List Addr} {H : Hp} : ∀ {vs : List V} {us : List Value} {ds : List D}, Vals vs us → VRs K m H vs ds → PySem.W.EachIs (IsV K m H) us ds
  | _, _, _, .nil, .nil => .nil
  | _, _, _, .cons r t, .cons w z => .cons ⟨_, r, w⟩ (each_isV t z)
theorem of_each {K : PySem.W.Frag} {m : List Addr} {H : Hp} : ∀ {us : List Value} {ds : List D}, PySem.W.EachIs (IsV K m H) us ds → ∃ vs, Vals vs us ∧ VRs K m H vs ds
  | _, _, .nil => ⟨[], .nil, .nil⟩
  | _, _, .cons ⟨x, r, w⟩ t => by
    obtain ⟨vs, h1, h2⟩ := of_each t
    exact ⟨x :: vs, .cons r h1, .cons w h2⟩
section
variable {X : Cx} {pins : List (Addr × Obj)} {σ : L2.St} {H : Hp} {s : Shared} {m : List Addr} {S : Sto}
theorem each_reads (I : Inv X pins σ H s) {vs : List V} {us : List Value} {ds : List D} (r : Vals vs us) (w : VRs X.K m H vs ds) (h : ∀ x ∈ ds, toPD x = some (encD x)) : PySem.W.EachIs (fun v b => ∃ as, Reads s.heap v (encD b) as) us ds := by
  induction r generalizing ds with
  | nil => cases w; exact .nil
  | cons r t ih =>
    cases w with
    | cons w z => exact .cons (Dp.reads I _ _ _ (w.dp (h _ (by simp))) r) (ih z fun x hx => h x (by simp [hx]))
def gSorted : GC := fun S ds => match ds with
  | [d] => match vw S d with
    | .lst xs => if srtOk xs = true then some (.lst (xs.mergeSort leD)) else none
    | _ => none
  | _ => none
theorem cl_sorted (hu : X.A.units + 64 < cLine) : CallL X (.builtin "sorted") gSorted := ⟨fun pins s σ H m S xs ds d us I q r rv e => by
  unfold gSorted at e
  split at e
  · split at e
    · rename_i l qv
      split at e
      · rename_i hk
        cases e
        obtain ⟨h1, h2, h3, h4, h5⟩ := srtOk_inv hk
        obtain ⟨v, rfl, w⟩ := r.one
        obtain ⟨a, vs, rfl, hs, rr⟩ := vw_lst q w qv
        obtain ⟨its, rv2, hl, hz⟩ := I.list hs
        rw [Vals.ref1 rv]
        refine PySem.W.sorted_data (R := IsV X.K m H) hl.isList (each_isV rv2 rr) (each_reads I rv2 rr h1) h2 h3 h5 (fun b hb => by have := h4 b hb; omega) fun out ho hE => ?_
        obtain ⟨ws, k1, k2⟩ := of_each hE
        obtain ⟨ep, he'⟩ := PyProof.Rows.sortedAll_at s.heap its (List.toArray out)
        have hn : H (s.heap.objs.size + 1) = none := I.hok.fresh (Nat.le_succ _)
        refine ⟨.ref (s.heap.objs.size + 1), upd H (s.heap.objs.size + 1) (.lst ws), m, I.laid (t' := s.toks) (fun _ _ => PyProof.Rows.sortedAll_old) (Nat.le_succ _) ⟨by rw [k1.length, ho]; exact h5, out, ep, k1, he'⟩, rfl, Ext.fresh hn, q.fresh hn, ?_⟩
        exact vr_newLst q hn k2
      · cases e
    · cases e
  · cases e⟩
end
end MP

namespace MP
open PySem PySem.Spec PyProof.Rows L2

/-! ### the keys of a dict -/
section
variable {X : Cx} {pins : List (Addr × Obj)} {σ : L2.St} {H : Hp} {s : Shared} {m : List Addr} {S : Sto}
theorem VDk.keysR {K : PySem.W.Frag} {m : List Addr} {H : Hp} : ∀ {vs : List (Key × V)} {ds : List (D × D)}, VDk K m H vs ds → VRs K m H (vs.map fun p => kV p.1) (ds.map (·.1))
  | _, _, .nil => .nil
  | _, _, @VDk.cons _ _ _ k v d vs ds h r => by
    refine .cons ?_ r.keysR
    cases k with
    | inl i => exact .int i
    | inr s => exact .str s
theorem VRs.kVs {K : PySem.W.Frag} {m : List Addr} {H : Hp} : ∀ ks : List Key, VRs K m H (ks.map kV) (ks.map keyD)
  | [] => .nil
  | .inl i :: ks => .cons (.int i) (VRs.kVs ks)
  | .inr s :: ks => .cons (.str s) (VRs.kVs ks)
theorem VDt.keysR {K : PySem.W.Frag} {m : List Addr} {H : Hp} : ∀ {vs : List (List Key × V)} {ds : List (D × D)} {bs : List Addr}, VDt K m H vs ds → IsKeys H vs bs → VRs K m H (bs.map V.ref) (ds.map (·.1))
  | _, _, _, .nil, .nil => .nil
  | _, _, _, @VDt.cons _ _ _ k v d vs ds h r, .cons hb t => .cons (.tup hb (VRs.kVs k)) (r.keysR t)
theorem dict_src (I : Inv X pins σ H s) (x : SR X.K m H S) {v : V} {d : D} {t : Bool} {kvs : List (D × D)} (r : VR X.K m H v d) (e : vw S d = .dct t kvs) :
    ∃ (a : Addr) (P : Nat → Value → Prop) (OK : Heap → Prop), v = .ref a ∧ PySem.W.KdlSrc X.prog X.w "dict" a a kvs.length P OK ∧ OK s.heap ∧ kvs.length ≤ sizeLine ∧
      ∀ acc, ItemsOf P acc kvs.length → ∃ ks, Vals ks acc.toList ∧ VRs X.K m H ks (kvs.map (·.1)) := by
  obtain ⟨a, rfl, h⟩ := vw_dct x r e
  rcases h with ⟨rfl, vs, h, rr⟩ | ⟨rfl, vs, h, rr⟩
  · obtain ⟨z, lo, us, rk, hd⟩ := (show ObjOk X.prog X.w H s.heap a (.dK vs) from I.hok a _ h)
    obtain ⟨ep, hat⟩ := hd.dictAt
    have hl : vs.length = us.length := Paired.length rk
    have hl2 := rr.length
    have src := PySem.W.kdl_dict (knd := mixKind X.prog X.w) (kvs := us) (ep := ep) lo
    rw [← hl, hl2] at src
    refine ⟨a, _, _, rfl, src, hat, by rw [← hl2]; exact z, fun acc it => ⟨_, ?_, rr.keysR⟩⟩
    have e1 : (vs.map fun p => kV p.1) = us.map fun p => kV p.1 := by
      have := KV.keys rk
      have e2 : (vs.map fun p => kV p.1) = (vs.map (·.1)).map kV := by rw [List.map_map]; rfl
      have e3 : (us.map fun p => kV p.1) = (us.map (·.1)).map kV := by rw [List.map_map]; rfl
      rw [e2, e3, this]
    rw [e1]
    exact keys_at (by rw [Array.length_toList, it.1, ← hl2, hl]) fun j w hw => it.2 j w (by rw [← Array.getElem?_toList]; exact hw)
  · obtain ⟨z, hs, ks, pr, o, es, ep, ho, hx, hdt, he, hn⟩ := (show ObjOk X.prog X.w H s.heap a (.dT vs) from I.hok a _ h)
    have l1 : es.size = ks.length := size_of_entries he
    have l2 : vs.length = ks.length := Paired.length pr
    have l3 := rr.length
    have src := kdl_raw (prog := X.prog) (w := X.w) hs hx hdt
    rw [l1, ← l2, l3] at src
    refine ⟨a, _, _, rfl, src, ho, by rw [← l3]; exact z, fun acc it => ⟨_, ?_, rr.keysR (isKeys_of pr)⟩⟩
    have ea : acc.toList = ks.map fun x => Value.ref x.2.1 := by
      have hl : acc.toList.length = ks.length := by rw [Array.length_toList, it.1, ← l3, l2]
      apply List.ext_getElem?
      intro j
      rw [List.getElem?_map]
      cases hj : acc.toList[j]? with
      | none =>
        have h1 := List.getElem?_eq_none_iff.mp hj
        rw [List.getElem?_eq_none (by omega)]
        all_goals rfl
      | some v =>
        obtain ⟨en, hen, hv⟩ := it.2 j v (by rw [← Array.getElem?_toList]; exact hj)
        have qe := entry_at he j
        rw [hen] at qe
        cases hb : ks[j]? with
        | none =>
          rw [hb] at qe
          exact nomatch (show some en = none from qe)
        | some b =>
          rw [hb] at qe
          have e2 : en = entryOfKey (tupleKind (mixKind X.prog X.w)) b := Option.some.inj qe
          rw [hv, e2]
          all_goals rfl
    have eb : acc.toList = (ks.map fun x => x.2.1).map Value.ref := by rw [ea, List.map_map]; all_goals rfl
    rw [eb]
    exact vals_refs _
/-- list(d) -/
def gListD : GC := fun S ds => match ds with
  | [d] => match vw S d with
    | .dct _ kvs => some (.lst (kvs.map (·.1)))
    | _ => none
  | _ => none
theorem cl_listD (hc : X.calm = true) : CallL X (.type "list") gListD := ⟨fun pins s σ H m S xs ds d us I q r rv e => by
  unfold gListD at e
  split at e
  · split at e
    · rename_i t kvs qv
      cases e
      obtain ⟨v, rfl, w⟩ := r.one
      obtain ⟨a, P, OK, rfl, src, ok, hz, hk⟩ := dict_src I q w qv
      rw [Vals.ref1 rv]
      refine PySem.W.kdl_call src (I.ok.hd hc) ok hz fun h' tk acc c kp e it => ?_
      obtain ⟨ks, k1, k2⟩ := hk acc it
      have hn : H s.heap.objs.size = none := I.hok.fresh (Nat.le_refl _)
      exact ⟨.ref s.heap.objs.size, _, m, I.laid (t' := tk) (o := .lst ks) kp (Nat.le_refl _) ⟨by rw [k2.length, List.length_map]; exact hz, acc.toList, c, k1, by rw [Array.toArray_toList]; exact e⟩, rfl, Ext.fresh hn, q.fresh hn, vr_newLst q hn k2⟩
    · cases e
  · cases e⟩
/-- sorted(d) -/
def gSortedD : GC := fun S ds => match ds with
  | [d] => match vw S d with
    | .dct _ kvs => if srtOk (kvs.map (·.1)) = true then some (.lst ((kvs.map (·.1)).mergeSort leD)) else none
    | _ => none
  | _ => none
theorem VRs.of_push {K : PySem.W.Frag} {m : List Addr} {H : Hp} {p : Addr} {vs : List V} {ds : List D} {xs : List V} (x : SR K m H S) (h : H p = none) (r : VRs K m H vs ds) : VRs K m (upd H p (.lst xs)) vs ds := r.fresh x h
theorem cl_sortedD (hc : X.calm = true) (hu : X.A.units + 64 < cLine) : CallL X (.builtin "sorted") gSortedD := ⟨fun pins s σ H m S xs ds d us I q r rv e => by
  unfold gSortedD at e
  split at e
  · split at e
    · rename_i t kvs qv
      split at e
      · rename_i hk0
        cases e
        obtain ⟨h1, h2, h3, h4, h5⟩ := srtOk_inv hk0
        obtain ⟨v, rfl, w⟩ := r.one
        obtain ⟨a, P, OK, rfl, src, ok, hz, hk⟩ := dict_src I q w qv
        rw [Vals.ref1 rv]
        refine PySem.Calls.call_function_entry PyProof.Rows.kind_sorted PyProof.Rows.plain_sorted PyProof.Rows.entry_sorted (PyProof.Rows.args_sorted1 _) ?_
        unfold Builtin.«sorted»
        refine wpAny_bind (m := checkCount "sorted" 1 1 _) (wpAny_pure ?_)
        refine wpAny_bind (PySem.W.kdu_collect (A := X.A.in1) src (I.ok.hd hc) ok hz fun h' tk acc hkp hacc => ?_)
        obtain ⟨ks, k1, k2⟩ := hk acc hacc
        have hal : acc.toList.length = kvs.length := by rw [Array.length_toList]; exact hacc.1
        refine wpAny_bind (wpAny_newList ?_ (by rw [hal]; exact hz))
        have hoL : (h'.push (seqObj "list" acc.toList.toArray 0)).get? h'.objs.size = some (seqObj "list" acc.toList.toArray 0) := Heap.get?_push_size _ rfl
        show wpAny _ _ _ _ _ { s with heap := h'.push (seqObj "list" acc.toList.toArray 0), toks := tk }
        have I1 : Inv X pins σ H { s with heap := h', toks := tk } := I.kept hkp
        have er := each_reads I1 k1 k2 h1
        obtain ⟨H1, hH1⟩ : ∃ z, z = h'.push (seqObj "list" acc.toList.toArray 0) := ⟨_, rfl⟩
        have er' : PySem.W.EachIs (fun v b => ∃ as, Reads (PySem.W.sortingHeap H1 h'.objs.size acc.toList) v (encD b) as) acc.toList (kvs.map (·.1)) := er.mono fun _ _ ⟨as, r⟩ => ⟨as, PyProof.Rows.Reads.keeps (fun b o z => PySem.W.sortingHeap_old (Nat.ne_of_lt (Heap.lt_size z)) (hH1 ▸ Heap.get?_push_of_some _ z)) r⟩
        have hR := each_isV (K := X.K) (m := m) (H := H) k1 k2
        rw [← hH1] at hoL ⊢
        refine wpAny_bind (wpAny_holding (wpAny_call_entry PyProof.Rows.slot_list_sort ⟨_, hoL, rfl⟩ PyProof.Rows.entry_list_sort (PySem.W.list_sort_vals (κ := PySem.W.dataKind (PySem.W.sortingHeap H1 h'.objs.size acc.toList) ((kvs.map (·.1)).map encD)) (s := { s with heap := H1, toks := tk }) hoL
          (PySem.W.SortsAt.data (s := { s with heap := PySem.W.sortingHeap H1 h'.objs.size acc.toList, toks := tk }) (PySem.W.each_map (R := fun v d => ∃ as, Reads (PySem.W.sortingHeap H1 h'.objs.size acc.toList) v d as) encD er') h2 h3 (PySem.W.bound_map fun b hb => by have := h4 b hb; show X.A.units + 1 + 1 + _ < cLine; omega)) (by rw [hal]; exact hz) ⟨.none, rfl, ?_⟩) (PyProof.Rows.args_list_sort _)))
        have hE := PySem.W.sortVals_data false hR er' h2
        have ho := PySem.W.sortVals_length (κ := PySem.W.dataKind (PySem.W.sortingHeap H1 h'.objs.size acc.toList) ((kvs.map (·.1)).map encD)) (vs := acc.toList) false rfl
        obtain ⟨ws, q1, q2⟩ := of_each hE
        obtain ⟨ep, he'⟩ := PyProof.Rows.sortedHeap_at (vs := acc.toList) (out := (PySem.W.sortVals (PySem.W.dataKind (PySem.W.sortingHeap H1 h'.objs.size acc.toList) ((kvs.map (·.1)).map encD)) false acc.toList acc.toList).toArray) hoL
        have hn : H h'.objs.size = none := I1.hok.fresh (Nat.le_refl _)
        refine wpAny_pure ⟨_, rfl, .ref h'.objs.size, upd H h'.objs.size (.lst ws), m, I1.laid (t' := tk) (fun b u e => ?_) (Nat.le_refl _) ⟨by rw [q1.length, ho, hal]; exact hz, _, ep, q1, he'⟩, rfl, Ext.fresh hn, q.fresh hn, vr_newLst q hn q2⟩
        have hb : b < h'.objs.size := Heap.lt_size e
        rw [PyProof.Rows.sortedHeap_old (Nat.ne_of_lt hb) (by rw [hH1, size_push']; exact Nat.lt_succ_of_lt hb), hH1]
        exact Heap.get?_push_of_some _ e
      · cases e
    · cases e
  · cases e⟩
end
end MP

namespace MP
open PySem PySem.Spec PyProof.Rows L2
open AutoSeq1 (wpAny_loadPart')
section
variable {prog : Program} {w : World} {A : Around} {E : Value → Shared → Prop} {s : Shared}
theorem new_tuple_src {A' : Around} {R : Result → Shared → Prop} {l : Addr} {T : String} {n : Nat} {P : Nat → Value → Prop} {OK : Heap → Prop} (K : PySem.W.KdlSrc prog w T l l n P OK) (hh : A.handled = none) (hok : OK s.heap) (hn : n ≤ sizeLine) (hne : T ≠ "tuple") (hT : s.TypeIs (.ref l) T)
    (h : ∀ (h' : Heap) (tk : Nat) (acc : Array Value), (∀ b o, s.heap.get? b = some o → h'.get? b = some o) → ItemsOf P acc n → R (.ok (.ret (.ref h'.objs.size))) { s with heap := h'.push { cls := .type "tuple", data := .seq acc }, toks := tk }) :
    wpAny (model prog w) A (Builtin.«tuple.__new__» ⟨[.type "tuple", .ref l], []⟩) (fun fin s' => match fin with
      | .done f => R (.ok f) s'
      | .again c' => c'.quiet = true ∧ codeAny (model prog w) A' c' R s') (fun e s' => R (.error e) s') s := by
  obtain ⟨hp, g, d, tk, os⟩ := s
  have hsub := sub_tuple_self
  have hinit := init_tuple_lookup
  have hmh := madeHere_tuple
  have hc : ∀ {Q : List Value → Shared → Prop} {E' : Value → Shared → Prop}, (∀ (h' : Heap) (tk' : Nat) (acc : Array Value), (∀ b o, hp.get? b = some o → h'.get? b = some o) → ItemsOf P acc n → Q acc.toList ⟨h', g, d, tk', os⟩) → wpAny (model prog w) A (collect (.ref l)) Q E' ⟨hp, g, d, tk, os⟩ := fun hq => PySem.W.kdu_collect K hh hok hn fun h' tk' acc hk hacc => hq h' tk' acc hk hacc
  wp_walk using wpAny_typeOf hT, hc
  intro h' tk' acc hk it
  refine wpAny_bind (wpAny_pure ?_)
  show wpAny _ _ (Builtin.Tuple.tupleExact acc.toList.toArray >>= fun v => ret v) _ _ _
  unfold Builtin.Tuple.tupleExact
  refine wpAny_bind (wpAny_newObj_type ?_ (by show acc.toList.toArray.size ≤ sizeLine; rw [Array.toArray_toList, it.1]; exact hn))
  refine wpAny_pure ?_
  rw [Array.toArray_toList]
  exact h h' tk' acc hk it
theorem call_tuple_src {l : Addr} {T : String} {n : Nat} {P : Nat → Value → Prop} {OK : Heap → Prop} {Q : Value → Shared → Prop} (K : PySem.W.KdlSrc prog w T l l n P OK) (hh : A.handled = none) (hok : OK s.heap) (hn : n ≤ sizeLine) (hne : T ≠ "tuple")
    (h : ∀ (h' : Heap) (tk : Nat) (acc : Array Value), (∀ b o, s.heap.get? b = some o → h'.get? b = some o) → ItemsOf P acc n → Q (.ref h'.objs.size) { s with heap := h'.push { cls := .type "tuple", data := .seq acc }, toks := tk }) :
    wpAny (model prog w) A (call (.type "tuple") [.ref l]) Q E s := by
  have hT : s.TypeIs (.ref l) T := K.type _ hok
  refine callType_codes (T := "tuple") (Bi := Builtin.«object.__init__») (Q₁ := fun r s₁ => s₁.TypeIs r "tuple" ∧ Q r s₁) PySem.F.called_tuple (PySem.F.typeCall_tuple_1 _) PySem.F.entry_object_init ?_ ?_
  · refine codeAny_of_tree ?_
    show wpAny _ A.in1.in1 (do checkBuiltinCall "tuple.__new__" ⟨[.type "tuple", .ref l], []⟩; again (.builtin "tuple.__new__" ⟨[.type "tuple", .ref l], []⟩)) _ _ s
    refine wpAny_bind (wpAny_of_eq (PySem.F.newCall_tuple_1 _) (wpAny_pure ⟨plainId_quiet (by decide +kernel) _, codeAny_builtin PySem.F.entry_tuple_new ?_⟩))
    rw [Around.under_plainId (by decide +kernel) _]
    exact new_tuple_src (A := A.in1.in1) (A' := A.in1) (R := wants (fun r s₁ => s₁.TypeIs r "tuple" ∧ Q r s₁) E) K hh hok hn hne hT fun h' tk acc hk it => ⟨⟨_, Heap.get?_push_size _ rfl, rfl⟩, h h' tk acc hk it⟩
  · rintro obj s₁ ⟨ht, hq⟩
    exact ⟨ht, PySem.F.args_object_init_2 _ _, object_init_meets PySem.F.called_tuple.init.lookup PySem.F.called_tuple.made (by decide) prog w A.in1 _ s₁ ⟨ht, rfl, hq⟩⟩
end
section
variable {X : Cx}
/-- tuple(d) -/
def gTupD : GC := fun S ds => match ds with
  | [d] => match vw S d with
    | .dct _ kvs => some (.tup (kvs.map (·.1)))
    | _ => none
  | _ => none
theorem cl_tupD (hc : X.calm = true) : CallL X (.type "tuple") gTupD := ⟨fun pins s σ H m S xs ds d us I q r rv e => by
  unfold gTupD at e
  split at e
  · split at e
    · rename_i t kvs qv
      cases e
      obtain ⟨v, rfl, w⟩ := r.one
      obtain ⟨a, P, OK, rfl, src, ok, hz, hk⟩ := dict_src I q w qv
      rw [Vals.ref1 rv]
      refine call_tuple_src src (I.ok.hd hc) ok hz (by decide) fun h' tk acc kp it => ?_
      obtain ⟨ks, k1, k2⟩ := hk acc it
      have I1 : Inv X pins σ H { s with heap := h', toks := tk } := I.kept kp
      have hn : H h'.objs.size = none := I1.hok.fresh (Nat.le_refl _)
      refine ⟨.ref h'.objs.size, _, m, I1.laid (t' := tk) (o := .tup ks) (fun b o e => Heap.get?_push_of_some _ e) (Nat.le_refl _) ⟨by rw [k2.length, List.length_map]; exact hz, acc.toList, k1, ?_⟩, rfl, Ext.fresh hn, q.fresh hn, vr_newTup q hn k2⟩
      have := IsTup.new h' acc
      rw [← Array.toArray_toList (xs := acc)] at this
      exact this
    · cases e
  · cases e⟩
end
end MP

/-! isinstance and fields of an exception that is a value (the two lemmas ahead: lines of HandS.ExcIs, turned to an exception with a dict) -/
namespace PySem.W
open PySem PySem.Spec PySem.Calls PyProof.Rows
section
variable {prog : Program} {w : World} {A : Around} {E : Value → Shared → Prop} {s : Shared} {K : Frag} {x D : Addr} {ox : Obj} {od : Option Obj}
theorem findObj_dataA {C : Addr} {name : Str} {a g : Value} (hc : (clsIn K C).isSome = true) (ha : findIn K (.ref C) name = some (some a)) (hg : specialIn K a "__get__" = some (some g)) (ht : takesIn K a = some true) : findObj K C od name = some (.bind g a) := by
  obtain ⟨cd, hc⟩ := Option.isSome_iff_exists.mp hc
  unfold findObj
  rw [hc, Option.bind_some, ha, Option.bind_some]
  simp [hg, ht]
theorem kin_classD {Q : Option Value → Shared → Prop} (hga : findIn K (.ref D) "__getattribute__" = some (some (.builtin "BaseException.__getattribute__"))) (hgt : findIn K (.ref D) "__getattr__" = some none) (hsub : subIn K (.ref D) (.type "BaseException") = some true)
    (hdct : hasDictIn K D = true) (ha : findIn K (.ref D) "__class__" = some (some (.builtin "object.__class__")))
    (hn : specialIn K (.builtin "object.__class__") "__get__" = some (some (.builtin "getset_descriptor.__get__"))) (htk : takesIn K (.builtin "object.__class__") = some true) (hm : mroIn K D (.type "object") = some true)
    (X : K.In s.heap) (I : InstAt s.heap x ox D od) (h : Q (some (.ref D)) { s with toks := s.toks + 1 }) : wpAny (model prog w) A (getAttr? (.ref x) "__class__") Q E s := by
  have hf : findObj K D od "__class__" = some (.bind (.builtin "getset_descriptor.__get__") (.builtin "object.__class__")) := findObj_dataA (by obtain ⟨cd, hc, _⟩ := any_some hdct; rw [hc]; rfl) ha hn htk
  obtain ⟨hp, g, d, t, os⟩ := s
  have L0 := I.type (M := model prog w)
  have L1 := looks_findIn (M := model prog w) X hga
  have L2 := looks_findIn (M := model prog w) X hgt
  have L3 := looks_find (M := model prog w) X I hf
  have sub : Looks (model prog w) hp (isInstance (.ref x) (.type "BaseException")) true := L0.andThen (looks_subIn X hsub)
  have hx0 : (false && onTheHeap (Value.builtin "BaseException.__getattribute__")) = false := rfl
  have hx2 : (Value.builtin "BaseException.__getattribute__" == Value.builtin "object.__getattribute__") = false := by decide +kernel
  have hx1 : (onTheHeap (Value.ref D) && Value.builtin "BaseException.__getattribute__" == Value.builtin "object.__getattribute__") = false := by rw [hx2]; rfl
  unfold getAttr? getAttrBy? getAttrBy
  refine wpAny_bind (wpAny_mkText (wpAny_bind (wpAny_attempt (wpAny_holding (wpAny_bind (L0.at (wpAny_bind (L1.at ?_))))))))
  show wpAny _ _ (if (onTheHeap (Value.ref D) && Value.builtin "BaseException.__getattribute__" == Value.builtin "object.__getattribute__") = true then _ else _) _ _ _
  rw [hx1, if_neg Bool.false_ne_true]
  unfold getAttrByItsOwn hookBefore
  refine wpAny_bind ?_
  rw [if_pos (show onTheHeap (Value.ref D) = true from rfl)]
  refine L2.at ?_
  refine wpAny_bind (wpAny_attempt (wpAny_holding ?_))
  unfold callGetattribute
  rw [hx0, if_neg Bool.false_ne_true]
  unfold boundAndCalled
  rw [PySem.F.excAttr_ValueError.ga.bind (.ref x)]
  refine wpAny_bind (wpAny_pure ?_)
  show wpAny _ _ (call (.builtin "BaseException.__getattribute__") [.ref x, .str "__class__" t]) _ _ _
  refine wpAny_call (codeAny_call_builtin PySem.F.excAttr_ValueError.ga.plain PySem.F.entry_bexc_ga ?_)
  refine @check_slot (model prog w) _ _ ⟨hp, g, d, t + 1, os⟩ "BaseException.__getattribute__" "BaseException" "__getattribute__" (.ref x) [.str "__class__" t] [] _ (by decide +kernel) (by decide +kernel) sub (PySem.F.args_bexc_ga (.ref x) (.str "__class__" t)) ?_
  unfold Builtin.«object.__getattribute__»
  refine wpAny_bind (wpAny_of_eq (a := ((Value.ref x : Value), [Value.str "__class__" t])) (by first | rfl | (simp only [slotArgs]; rfl)) ?_)
  refine wpAny_bind (wpAny_pure (wpAny_bind (L0.at (wpAny_bind (L3.at ?_)))))
  show wpAny _ _ (holding [Value.builtin "object.__class__"] (call (.builtin "getset_descriptor.__get__") [.builtin "object.__class__", .ref x, .ref D]) >>= ret) _ _ _
  refine wpAny_bind (wpAny_holding (wpAny_call (class_get (s := ⟨hp, g, d, t + 1, os⟩) (ox := ox) (od := od) X I hm ?_)))
  refine wpAny_pure ?_
  show wpAny _ _ (handedOut (.ref D)) _ _ _
  rw [handedOut_of (v := .ref D) rfl]
  first
    | exact wpAny_pure (wpAny_pure h)
    | exact wpAny_pure h
    | exact wpAny_pure (wpAny_bind (wpAny_pure (wpAny_pure h)))
theorem kitx_excD (hga : findIn K (.ref D) "__getattribute__" = some (some (.builtin "BaseException.__getattribute__"))) (hgt : findIn K (.ref D) "__getattr__" = some none) (hsub : subIn K (.ref D) (.type "BaseException") = some true) (hdct : hasDictIn K D = true) (ha : findIn K (.ref D) "__class__" = some (some (.builtin "object.__class__")))
    (hn : specialIn K (.builtin "object.__class__") "__get__" = some (some (.builtin "getset_descriptor.__get__"))) (htk : takesIn K (.builtin "object.__class__") = some true) (hm : mroIn K D (.type "object") = some true) :
    KitX K (.ref x) (.ref D) (fun h => InstAt h x ox D od) where
  ty := fun _ _ _ I => I.type
  it := fun _ _ X _ => by
    obtain ⟨cdD, hcD, _⟩ := any_some hdct
    unfold clsIn at hcD
    split at hcD
    · rename_i c' d' cd' sl' ho
      intro A' Q' E' s' k q
      unfold isType loadHead
      exact wpAny_bind (wpAny_loadPart (k _ _ (X _ _ ho)) (wpAny_pure q))
    · cases hcD
  ne := fun h tp dd its n sl X htp => by
    obtain ⟨cdD, hcD, _⟩ := any_some hdct
    refine Bool.eq_false_iff.mpr fun q => ?_
    have e : D = tp := Value.ref.inj (beq_iff_eq.mp q)
    subst e
    unfold clsIn at hcD
    split at hcD
    · rename_i c' d' cd' sl' ho
      have z := (X _ _ ho).symm.trans htp
      cases z
    · cases hcD
  ca := fun X I k => kin_classD hga hgt hsub hdct ha hn htk hm X I k
end
end PySem.W
namespace MP
open PySem PySem.Spec PyProof.Rows L2
section
variable {X : Cx} {pins : List (Addr × Obj)} {σ : L2.St} {H : Hp} {s : Shared} {m : List Addr} {S : Sto}
theorem exv_at {a C : Addr} {d : Option Addr} (I : Inv X pins σ H s) (h : H a = some (ExV C d a)) : ∃ (oe : Obj) (vs : Array Value), s.heap.get? a = some oe ∧ Zc (.ref C) d oe ∧ oe.data = .fields vs := by
  have x : ObjOk X.prog X.w H s.heap a (.ext fun h => ∃ (oe : Obj) (vs : Array Value), h.get? a = some oe ∧ Zc (.ref C) d oe ∧ oe.data = .fields vs) := I.hok a _ h
  exact x.1
theorem vw_exn {v : V} {d : D} {C : Addr} {gs : List (Str × D)} (r : VR X.K m H v d) (e : vw S d = .exn C gs) : VR X.K m H v (.exn C gs) := by
  cases r with
  | exn0 n h => cases e; exact .exn0 n h
  | exnD n nd h hd r => cases e; exact .exnD n nd h hd r
  | @ref i a h =>
    dsimp only [vw] at e
    cases q : S[i]? with
    | none => rw [q] at e; cases e
    | some ob => rw [q] at e; cases ob <;> cases e
  | _ => cases e
theorem exn_inst {v : V} {C : Addr} {gs : List (Str × D)} (I : Inv X pins σ H s) (r : VR X.K m H v (.exn C gs)) : ∃ a ox od, v = .ref a ∧ PySem.W.InstAt s.heap a ox C od ∧
    ∀ f d, gs.lookup f = some d → ∃ o w u, od = some o ∧ PySem.W.lookIn f o = some (some u) ∧ RelV w u ∧ VR X.K m H w d := by
  cases r with
  | @exn0 a C n h =>
    obtain ⟨oe, vs, h1, h2, h3⟩ := exv_at I h
    refine ⟨a, oe, none, rfl, ⟨h1, h2.1, by unfold PySem.W.notCls; rw [h3] <;> rfl, by rw [h2.2]; trivial⟩, fun f d q => by simp at q⟩
  | @exnD a C dd fs gs n nd h hd r =>
    obtain ⟨oe, vs, h1, h2, h3⟩ := exv_at I h
    obtain ⟨mA, hns, rel⟩ : ∃ mA, s.heap.Ns1 dd mA ∧ ∀ f, RelO (fs.lookup f) (mA f) := by
      rcases hd with hd | hd
      · exact exd_at I.hok hd
      · exact I.hok dd _ hd
    obtain ⟨o, ho, hl⟩ := lookIn_ns hns
    refine ⟨a, oe, some o, rfl, ⟨h1, h2.1, by unfold PySem.W.notCls; rw [h3] <;> rfl, by rw [h2.2]; exact ho⟩, fun f d q => ?_⟩
    obtain ⟨w, q1, q2⟩ := r.look q
    obtain ⟨u, hu, ru⟩ := RelO.some_of (v := w) (o := mA f) (by rw [← q1]; exact rel f)
    exact ⟨o, w, u, rfl, by rw [hl, hu], ru, q2⟩
variable {e : Expr} {pos : Pos} {l : LE} {Cs : List Addr} {f : Str}
/-- e.f, e an exception of one of the classes -/
def gFldE (Cs : List Addr) (f : Str) (S : Sto) (d : D) : Option D := match vw S d with
  | .exn C fs => if C ∈ Cs then fs.lookup f else none
  | _ => none
def lFldE (Cs : List Addr) (f : Str) (l : LE) : LE := fun ρ S => (l ρ S).bind fun d S1 => lift1 (gFldE Cs f S1 d) S1
theorem pel_fldE (hT : ∀ C ∈ Cs, XfC X.K C ∧ PySem.W.findIn X.K (.ref C) f = some none) (he : PEL X e l) (hb : attributeBase e f X.env (eval e X.env) = eval e X.env := by rfl) : PEL X (.Attribute e f pos) (lFldE Cs f l) := by
  refine ⟨fun pins s σ H m ρ S I x r hp => ?_⟩
  refine attr_of hb (run_seq he I x r hp fun d S1 q1 v u s1 H1 m1 I1 rv e1 x1 w1 r1 hp1 => ?_)
  obtain ⟨d', q2⟩ := lift_ok hp1
  have e0 : lFldE Cs f l ρ S = .ok d' S1 := by unfold lFldE; rw [q1, bind_ok, q2]; rfl
  rw [e0]
  unfold gFldE at q2
  split at q2
  · rename_i C gs q3
    split at q2
    · rename_i q4
      obtain ⟨T, hno⟩ := hT C q4
      obtain ⟨a, ox, od, rfl, J, k⟩ := exn_inst I1 (vw_exn w1 q3)
      obtain ⟨o, w, u', rfl, hl, ru, w2⟩ := k f d' q2
      obtain rfl : u = Value.ref a := rv
      exact HandSPX.exc_get I1.kIn J T.ga T.gg T.exC (PySem.W.findObj_own T.hdC hno rfl hl) (handed_of ru) ((vpr_of ⟨w, H1, m1, I1.tok _, ru, Ext.refl, x1, w2⟩).left e1)
    · cases q2
  · cases q2
/-- isinstance(e, c), e an exception -/
structure IsEOk (K : PySem.W.Frag) (c : Value) (tab : Addr → Option Bool) : Prop where
  one : ∀ C b, tab C = some b → PySem.W.kitOne K (.ref C) c = some b ∧ ExcC K C
def gIsE (tab : Addr → Option Bool) (S : Sto) (d : D) : Option D := match vw S d with
  | .exn C _ => (tab C).map .bl
  | _ => none
def lIsE (tab : Addr → Option Bool) (l : LE) : LE := fun ρ S => (l ρ S).bind fun d S1 => lift1 (gIsE tab S1 d) S1
theorem pel_isE {ce : Expr} {p : Pos} {cv : Value} {cw : V} {tab : Addr → Option Bool} (hg : Gl X "isinstance") (hm : X.mg "isinstance" = none) (he : PEL X e l) (hc : PE X ce (tC cw)) (hcv : ClsV cw cv) (ok : IsEOk X.K cv tab)
    (hs : starEach [e, ce] X.env = (false, eval e X.env) :: starEach [ce] X.env := by rfl) (hs2 : starEach [ce] X.env = (false, eval ce X.env) :: starEach [] X.env := by rfl)
    (hpl : (backTo pos (starEach [ce] X.env)).any (·.1) = false := by rfl) : PEL X (.Call (.Name "isinstance" p) [e, ce] [] pos) (lIsE tab l) := by
  refine ⟨fun pins s σ H m ρ S I x r hp => ?_⟩
  refine wpAny_Call_Name_kw (ld_blt I hg hm (u := .builtin "isinstance") (by decide +kernel) ?_ (by decide) (by decide))
  refine PyProof.Rows.callWith_builtin1 ?_ hs hpl
  rw [hs]
  show wpAny _ _ (spliced ((false, eval e X.env) :: backTo pos (starEach [ce] X.env))) _ _ s
  refine Calls.spliced_cons (run_seq he I x r hp fun d S1 q1 v u s1 H1 m1 I1 rv e1 x1 w1 r1 hp1 => ?_)
  rw [hs2]
  show wpAny _ _ (spliced ((false, eval ce X.env) :: backTo pos (starEach [] X.env))) _ _ s1
  refine Calls.spliced_cons (thn (hc.run pins s1 σ H1 (fun v' H' => v' = cw ∧ H' = H1) I1 ⟨rfl, rfl⟩) fun u2 s2 ⟨v2, H2, I2, rv2, ev, eH⟩ => ?_)
  subst ev
  subst eH
  refine Calls.spliced_nil ?_
  obtain ⟨d', q2⟩ := lift_ok hp1
  have e0 : lIsE tab l ρ S = .ok d' S1 := by unfold lIsE; rw [q1, bind_ok, q2]; rfl
  rw [e0]
  unfold gIsE at q2
  split at q2
  · rename_i C gs q3
    cases qb : tab C with
    | none => rw [qb] at q2; cases q2
    | some b =>
      rw [qb] at q2
      cases q2
      obtain ⟨k1, T⟩ := ok.one C b qb
      obtain ⟨a, ox, od, rfl, J, _⟩ := exn_inst I2 (vw_exn w1 q3)
      have ec := hcv.eq rv2
      subst ec
      obtain rfl : u = Value.ref a := rv
      exact PySem.W.kia_one (PySem.W.kitx_excD T.hg T.hk T.hs T.hd T.ha T.hn T.ht T.hm) I2.kIn J k1 (fun z => nomatch z) fun tk => ⟨_, S1, rfl, .bl b, H2, m1, I2.tok tk, rfl, e1, x1, .bl b⟩
  · cases q2
end
end MP

/-! own exceptions made as values -/
namespace MP
open PySem PySem.Spec PyProof.Rows L2
theorem upd_comm {H : Hp} {a b : Addr} {o u : HO} (h : a ≠ b) : upd (upd H a o) b u = upd (upd H b u) a o := by
  funext c
  unfold upd
  by_cases h1 : c = b
  · rw [if_pos h1, if_neg (fun z => h (z.symm.trans h1)), if_pos h1]
  · rw [if_neg h1]
    by_cases h2 : c = a
    · rw [if_pos h2, if_pos h2]
    · rw [if_neg h2, if_neg h2, if_neg h1]
/-! ### the bodies of __init__ -/
theorem rd_init1 {K : PySem.W.Frag} {f msg : Str} {N : List Str} {vs : List V} {H : Hp} {Q : VK} {E : XK} (h : spE K [f] vs H Q E) :
    tSeq (tDrop (tVeI K (tCons (tVar 0) (tCons (tC (.str msg)) L2.tNil)))) (tSeq (tOst K f (tVar 0) (tVar 1)) tNext) { nx := fun _ H' => Q .non H', rt := Q } (L2.start N vs) H := by
  obtain ⟨e, C, ys, rfl, hl, T, hno, he, hq⟩ := h
  match ys, hl with
  | [y], _ =>
    refine ⟨.ref e, rfl, e, C, [.str msg], rfl, by simp, T, he, y, rfl, .ref e, rfl, e, C, rfl, T, hno f (by simp), .inl ⟨he, fun dx n ne => ?_⟩⟩
    exact hq dx n ne
theorem rd_init2 {K : PySem.W.Frag} {f g msg : Str} {N : List Str} {vs : List V} {H : Hp} {Q : VK} {E : XK} (h : spE K [f, g] vs H Q E) :
    tSeq (tDrop (tVeI K (tCons (tVar 0) (tCons (tC (.str msg)) L2.tNil)))) (tSeq (tOst K f (tVar 0) (tVar 1)) (tSeq (tOst K g (tVar 0) (tVar 2)) tNext)) { nx := fun _ H' => Q .non H', rt := Q } (L2.start N vs) H := by
  obtain ⟨e, C, ys, rfl, hl, T, hno, he, hq⟩ := h
  match ys, hl with
  | [y, z], _ =>
    refine ⟨.ref e, rfl, e, C, [.str msg], rfl, by simp, T, he, y, rfl, .ref e, rfl, e, C, rfl, T, hno f (by simp), .inl ⟨he, fun dx n ne => ?_⟩⟩
    refine ⟨z, rfl, .ref e, rfl, e, C, rfl, T, hno g (by simp), .inr ⟨dx, [(f, y)], upd_same, ?_, by simp, ?_⟩⟩
    · rw [upd_ne ne, upd_same]
    · have q := hq dx n ne
      have e1 : upd (upd (upd H dx (exd dx [(f, y)])) e (exo e C (some dx))) dx (exd dx [(g, z), (f, y)]) = upd (upd H dx (exd dx [(g, z), (f, y)])) e (exo e C (some dx)) := by
        rw [upd_comm (a := e) (b := dx) (Ne.symm ne), L2.upd_upd]
      show Q .non (upd (upd (upd H dx (exd dx [(f, y)])) e (exo e C (some dx))) dx (exd dx [(g, z), (f, y)]))
      rw [e1]
      exact q

theorem vfs_zip {K : PySem.W.Frag} {m : List Addr} {H : Hp} : ∀ {fs : List Str} {vs : List V} {ds : List D}, VRs K m H vs ds → VFs K m H (fs.zip vs) (fs.zip ds)
  | [], _, _, _ => .nil
  | _ :: _, _, _, .nil => .nil
  | _ :: _, _, _, .cons h r => .cons h (vfs_zip r)
theorem vfs_append {K : PySem.W.Frag} {m : List Addr} {H : Hp} {vs ws : List (Str × V)} {ds es : List (Str × D)} : VFs K m H vs ds → VFs K m H ws es → VFs K m H (vs ++ ws) (ds ++ es)
  | .nil, r => r
  | .cons h r, r' => .cons h (vfs_append r r')
theorem vfs_rev {K : PySem.W.Frag} {m : List Addr} {H : Hp} : ∀ {vs : List (Str × V)} {ds : List (Str × D)}, VFs K m H vs ds → VFs K m H vs.reverse ds.reverse
  | _, _, .nil => .nil
  | _, _, .cons h r => by
    rw [List.reverse_cons, List.reverse_cons]
    exact vfs_append (vfs_rev r) (.cons h .nil)
/-- what a class C with an __init__ of its own must have -/
structure MkE (K : PySem.W.Frag) (C f : Addr) (fs : List Str) : Prop where
  T : OexC K C
  i : PySem.W.findIn K (.ref C) "__init__" = some (some (.ref f))
  t : PySem.W.typeIn K (.ref f) = some (.type "function")
  no : ∀ g ∈ fs, PySem.W.findIn K (.ref C) g = some none
section
variable {X : Cx} {pins : List (Addr × Obj)} {σ : L2.St} {H : Hp} {s : Shared} {m : List Addr} {S : Sto} {C f : Addr} {fs ps : List Str} {k : Nat} {fd : FuncData}
abbrev FnE (P : Program) (w : World) (K : PySem.W.Frag) (mg : Str → Option Value) (base : Heap) (k : Nat) (f : Addr) (fd : FuncData) (ps fs : List Str) : Prop := FnOk P w K mg base (L2.CX P w) k f fd ps (spE K fs)
theorem run_makeE {us full : List Value} {kw : List (Str × Value)} {ys : List V} {ds : List D} (M : MkE X.K C f fs) (Fn : FnE X.prog X.w X.K X.mg X.base k f fd ps fs) (hr : Room (k + 1) X.A)
    (hb : ∀ s a, X.K.In s.heap → BindsTo s fd ⟨.ref a :: us, kw⟩ (ps.zip (.ref a :: full))) (hus : us.length ≤ sizeLine) (I : Inv X pins σ H s) (x : SR X.K m H S) (r : Vals ys full) (rd : VRs X.K m H ys ds) (hl : ys.length = fs.length) :
    wpAny (model X.prog X.w) X.A (call (.ref C) us kw) (VP X pins σ m H (.exn C (fs.zip ds).reverse) S) X.xe s := by
  obtain ⟨nm, q, N, bs, bm, sn, sub, ab, col, dd, k0, k1, k2, k3, k5, hC, hbm⟩ := M.T.cls
  obtain ⟨hp, g, dr, tk, os⟩ := s
  obtain ⟨a, ha⟩ : ∃ a, a = hp.objs.size + 1 := ⟨_, rfl⟩
  have hn : H a = none := by rw [ha]; exact I.hok.fresh (Nat.le_succ _)
  have kk : ∀ b o, hp.get? b = some o → ((hp.push (PySem.W.kdv_tup us)).push (PySem.HandSPX.excO C hp.objs.size)).get? b = some o := fun b o e => Heap.get?_push_of_some _ (Heap.get?_push_of_some _ e)
  have hget : ((hp.push (PySem.W.kdv_tup us)).push (PySem.HandSPX.excO C hp.objs.size)).get? a = some (PySem.HandSPX.excO C hp.objs.size) := by rw [ha]; heap_get
  have I2 : Inv X pins σ (upd H a (exo a C none)) ⟨(hp.push (PySem.W.kdv_tup us)).push (PySem.HandSPX.excO C hp.objs.size), g, dr, tk, os⟩ :=
    I.laid (t' := tk) (a := a) (o := exo a C none) (h' := (hp.push (PySem.W.kdv_tup us)).push (PySem.HandSPX.excO C hp.objs.size)) kk (by rw [ha]; exact Nat.le_succ _) (exo_ok hget)
  have r2 : Vals (V.ref a :: ys) (Value.ref a :: full) := .cons rfl r
  have hsp : spE X.K fs (V.ref a :: ys) (upd H a (exo a C none)) (fun v H2 => v = .non ∧ ∃ dx, H dx = none ∧ dx ≠ a ∧ H2 = upd (upd (upd H a (exo a C none)) dx (exd dx (fs.zip ys).reverse)) a (exo a C (some dx))) (fun _ _ _ => False) :=
    ⟨a, C, ys, rfl, hl, M.T, M.no, upd_same, fun dx n ne => ⟨rfl, dx, by rw [upd_ne ne] at n; exact n, ne, rfl⟩⟩
  refine wpAny_call (PySem.MPX.call_kw F.excBase_ValueError (fun Y => PySem.HandSPX.refsVE_contains Y bm hbm) (I.kIn _ _ hC) (PySem.W.looks_findIn I.kIn M.i) (fun self => PySem.W.bind_fn I.kIn self M.t) hus ?_)
  rw [← ha]
  refine codeAny_mono (Fn.run _ X.stack _ _ ⟨Value.ref a :: us, kw⟩ (Value.ref a :: full) _ _ (fun _ _ _ => False) (hr.make C us kw) (I2.env0.make C us kw) (hb _ a I2.kIn) r2 hsp) fun r s' hq => ?_
  cases r with
  | error er => exact passL pins σ _ _ er s' I2 hq
  | ok fl =>
    cases fl with
    | ret u =>
      obtain ⟨v, H3, I3, rv, ev, dx, hdx, dne, rfl⟩ := I2.after hq
      subst ev
      obtain rfl : u = Value.none := rv
      refine ⟨rfl, ?_⟩
      obtain ⟨t1, hx⟩ := exo_at I3.hok (show upd (upd (upd H a (exo a C none)) dx (exd dx (fs.zip ys).reverse)) a (exo a C (some dx)) a = some (exo a C (some dx)) from upd_same)
      have ox : ObjOk X.prog X.w (upd (upd (upd (upd H a (exo a C none)) dx (exd dx (fs.zip ys).reverse)) a (exo a C (some dx))) a (ExV C (some dx) a)) s'.heap a (ExV C (some dx) a) :=
        ⟨⟨_, _, hx, ⟨rfl, rfl⟩, rfl⟩, ⟨_, hx⟩, fun h1 h2 z kz => by
          obtain ⟨oe, vs, z1, z2, z3⟩ := z
          exact ⟨oe, vs, kz _ z1, z2, z3⟩⟩
      have I4 := I3.write (t' := s'.toks) (x := a) (e := a) (o := ExV C (some dx) a) (h' := s'.heap) (by rw [upd_same]; exact True.intro) (.inl rfl) (fun _ _ _ z => z) ⟨_, hx⟩ ox
      have eH : upd (upd (upd (upd H a (exo a C none)) dx (exd dx (fs.zip ys).reverse)) a (exo a C (some dx))) a (ExV C (some dx) a) = upd (upd H dx (exd dx (fs.zip ys).reverse)) a (ExV C (some dx) a) := by
        rw [L2.upd_upd, upd_comm (a := a) (b := dx) (Ne.symm dne), L2.upd_upd]
      rw [eH] at I4
      have hn' : (upd H dx (exd dx (fs.zip ys).reverse)) a = none := by rw [upd_ne (Ne.symm dne)]; exact hn
      have x1 : SR X.K m (upd H dx (exd dx (fs.zip ys).reverse)) S := x.fresh hdx
      have E1 : Ext m H m (upd H dx (exd dx (fs.zip ys).reverse)) := Ext.fresh hdx
      have x2 : SR X.K m (upd (upd H dx (exd dx (fs.zip ys).reverse)) a (ExV C (some dx) a)) S := x1.fresh hn'
      have E2 : Ext m H m (upd (upd H dx (exd dx (fs.zip ys).reverse)) a (ExV C (some dx) a)) := E1.trans (Ext.fresh hn')
      refine ⟨.ref a, _, m, I4, rfl, E2, x2, ?_⟩
      exact .exnD (x.nin hn) (x.nin hdx) upd_same (.inl (by rw [upd_ne dne, upd_same])) (vfs_rev (vfs_zip (rd.ext E2 x.muts)))
    | next => exact False.elim hq
    | brk => exact False.elim hq
    | cont => exact False.elim hq
end
end MP

namespace MP
open PySem PySem.Spec PyProof.Rows L2
section
variable {X : Cx} {e : Expr} {pos p : Pos} {es : List Expr} {kws : List Keyword} {t tk : LA} {x : Str} {k : Nat} {f C : Addr} {fd : FuncData} {ps ks fs : List Str}
def mkE (C : Addr) (fs : List Str) (ds : List D) (S : Sto) : R D := if ds.length = fs.length then .ok (.exn C (fs.zip ds).reverse) S else .bad
/-- C(e, ..), an own exception class with an __init__ of its own -/
theorem pel_makeE (M : MkE X.K C f fs) (Fn : FnE X.prog X.w X.K X.mg X.base k f fd ps fs) (hr : Room (k + 1) X.A) (hg : Gl X x) (hm : X.mg x = some (.ref C)) (hb : Binds X.K fd ps [])
    (ha : PAL X (e :: es) t) (hdb : (x == ("__debug__" : Str)) = false := by decide) (he : starEach (e :: es) X.env = (false, eval e X.env) :: starEach es X.env := by rfl) (hpl : (backTo pos (starEach es X.env)).any (·.1) = false := by rfl) (hps : ps.length = fs.length + 1 := by rfl) (hz : fs.length ≤ 1000 := by decide) :
    PEL X (.Call (.Name x p) (e :: es) [] pos) (fun ρ S => (t ρ S).bind fun ds S1 => mkE C fs ds S1) := by
  refine ⟨fun pins s σ H m ρ S I x r hp => ?_⟩
  refine wpAny_Call_Name_kw (ld_glob I hg hm ?_ hdb)
  refine PySem.W.callWith_K (h₀ := X.base) I.ok.mod.kin M.T.kC (run_seqA ha I x r hp fun ds S1 q1 vs us s1 H1 m1 I1 rv e1 x1 w1 r1 hp1 => ⟨I1.kIn, ?_⟩) he hpl
  have hl := hope_if hp1
  rw [q1, bind_ok]
  unfold mkE
  rw [if_pos hl]
  have l1 : vs.length = fs.length := by rw [w1.length]; exact hl
  have l2 : us.length = fs.length := by rw [← rv.length]; exact l1
  show wpAny _ _ (call (.ref C) us) _ _ _
  refine thn (run_makeE (kw := []) M Fn hr (fun s a hi => ?_) (by rw [l2, sizeLine_eq]; omega) I1 x1 rv w1 l1) fun _ _ z => (vpr_of z).left e1
  have z := hb s (.ref a :: us) hi (by rw [List.append_nil, List.length_cons, l2, hps])
  rw [List.append_nil] at z
  exact z
/-- C(k = v, ..), likewise; pk: the order of the values, self being 0 -/
def mkEk (C : Addr) (fs ks : List Str) (pk : List Nat) (ds : List D) (S : Sto) : R D := if ds.length = ks.length ∧ (pick pk ds).length = fs.length then .ok (.exn C (fs.zip (pick pk ds)).reverse) S else .bad
theorem pel_makeEk {pk : List Nat} (M : MkE X.K C f fs) (Fn : FnE X.prog X.w X.K X.mg X.base k f fd ps fs) (hr : Room (k + 1) X.A) (hg : Gl X x) (hm : X.mg x = some (.ref C)) (hb : KwB X.K fd ps 1 ks (0 :: pk.map (· + 1)) [])
    (hkw : PKL X kws tk) (hall : (backToKw pos (keywordEach kws X.env)).all (·.1.isSome) = true := by rfl) (hks : (backToKw pos (keywordEach kws X.env)).filterMap (·.1) = ks := by rfl)
    (hdb : (x == ("__debug__" : Str)) = false := by decide)
    (hpl : ((backTo pos (starEach [] X.env)).any (·.1) || (backToKw pos (keywordEach kws X.env)).any (·.1.isNone)) = false := by rfl) :
    PEL X (.Call (.Name x p) [] kws pos) (fun ρ S => (tk ρ S).bind fun es S2 => mkEk C fs ks pk es S2) := by
  refine ⟨fun pins s σ H m ρ S I x r hp => ?_⟩
  refine wpAny_Call_Name_kw (ld_glob I hg hm ?_ hdb)
  refine PySem.W.callWith_KW0 (h₀ := X.base) I.ok.mod.kin M.T.kC hall ?_ hpl
  refine thn (hkw.run pos pins s σ H m ρ S I x r (hope_seq hp)) fun ws s2 ⟨zs, S2, zv, H2, m2, q2, I2, rv2, e2, x2, w2⟩ => ⟨I2.kIn, ?_⟩
  rw [q2] at hp ⊢
  have hl := hope_if (hp.ext e2 : Hope X σ m2 H2 (mkEk C fs ks pk zs S2))
  rw [bind_ok, hks]
  unfold mkEk
  rw [if_pos hl]
  have l2 : ws.length = ks.length := by rw [← rv2.length, w2.length]; exact hl.1
  have w3 := w2.pick pk
  have r3 := vals_pick rv2 pk
  refine thn (run_makeE (us := []) (full := pick pk ws) (kw := ks.zip ws) M Fn hr (fun s a hi => ?_) (by simp) I2 x2 r3 w3 (by rw [w3.length]; exact hl.2)) fun _ _ z => (vpr_of z).left e2
  have z := hb.to s [.ref a] ws hi rfl l2
  have e0 : pick (0 :: pk.map (· + 1)) ([Value.ref a] ++ ws ++ []) = .ref a :: pick pk ws := by
    rw [List.append_nil]
    unfold pick
    rw [List.filterMap_cons_some (show ([Value.ref a] ++ ws)[0]? = some (.ref a) from rfl), List.filterMap_map]
    rfl
  rw [e0] at z
  exact z
theorem exV_ok {P : Program} {w : World} {H : Hp} {h : Heap} {a : Addr} {d : Option Addr} {oe : Obj} {vs : Array Value} (e1 : h.get? a = some oe) (z : Zc (.ref C) d oe) (d1 : oe.data = .fields vs) : ObjOk P w H h a (ExV C d a) :=
  ⟨⟨oe, vs, e1, z, d1⟩, ⟨oe, e1⟩, fun h1 h2 z kz => by
    obtain ⟨oe, vs, z1, z2, z3⟩ := z
    exact ⟨oe, vs, kz _ z1, z2, z3⟩⟩
/-- C(e), an own exception class without an __init__ of its own: the text is not told -/
theorem pel_exc1 {l : LE} {bmB : List Value} {B newId initId : String} (F : ExcBaseFacts B newId initId bmB) (q : PySem.W.excIn X.K C bmB newId = true) (gC : X.mg x = some (.ref C)) (kC : PySem.W.keepIn X.K (.ref C) = true) (hg : Gl X x)
    (he : PEL X e l) (hs : starEach [e] X.env = (false, eval e X.env) :: starEach [] X.env := by rfl) (hdb : (x == ("__debug__" : Str)) = false := by decide) :
    PEL X (.Call (.Name x p) [e] [] pos) (fun ρ S => (l ρ S).bind fun _ S1 => .ok (.exn C []) S1) := by
  refine ⟨fun pins s σ H m ρ S I x r hp => ?_⟩
  refine wpAny_Call_Name_kw (ld_glob I hg gC ?_ hdb)
  refine PySem.W.callWith_K (h₀ := X.base) I.ok.mod.kin kC ?_ hs (by rfl)
  rw [hs]
  show wpAny _ _ (spliced ((false, eval e X.env) :: backTo pos (starEach [] X.env))) _ _ s
  refine Calls.spliced_cons (run_seq he I x r hp fun d S1 q1 v u s1 H1 m1 I1 rv e1 x1 w1 r1 hp1 => ?_)
  refine Calls.spliced_nil ⟨I1.kIn, ?_⟩
  show wpAny _ _ (call (.ref C) [u]) _ _ _
  rw [q1, bind_ok]
  obtain ⟨bm, N, nm, qn, bs, hdct, sn, sub, ab, col, dd, k0, k1, k2, k3, k5, mN, hC, hN, hni, T⟩ := exc_obj I1.kIn q
  refine wpAny_call_exc_subT F T hC hN hni (fun h' a hm => ?_) (by show 1 ≤ sizeLine; rw [sizeLine_eq]; omega)
  have hn : H1 a = none := I1.hok.gone hm.new
  obtain ⟨t, ht, _, _⟩ := hm.there
  exact (vpr_of ⟨.ref a, upd H1 a (ExV C none a), m1, I1.laidN hm.keeps hm.new hn (exV_ok ht ⟨rfl, rfl⟩ rfl), rfl, Ext.fresh hn, x1.fresh hn, .exn0 (x1.nin hn) upd_same⟩).left e1
end
end MP

/-! an exception that a handler keeps: it is taken into the abstract heap -/
namespace MP
open PySem PySem.Spec PyProof.Rows L2
section
variable {X : Cx} {pins : List (Addr × Obj)} {σ : L2.St} {H : Hp} {s : Shared} {a : Addr} {o : HO}
theorem inv_suiteA (I : Inv X pins σ H s) : Inv (X.suite a (X.pn ++ pins)) [] σ H s :=
  ⟨I.ok.suite _ _, I.os, I.bare, I.base, I.loc, I.cell, I.free, I.freeC, fun p hp => I.pin p (by rw [List.append_nil] at hp; exact hp), I.hok, I.len⟩
theorem inv_unsuiteA {pn' : List (Addr × Obj)} (I : Inv (X.suite a (X.pn ++ pins)) pn' σ H s) (ok : X.Ok) : Inv X pins σ H s :=
  ⟨ok, I.os, I.bare, I.base, I.loc, I.cell, I.free, I.freeC, fun p hp => I.pin p (List.mem_append_left _ hp), I.hok, I.len⟩
theorem inv_adopt (I : Inv X pins σ H s) (na : H a = none) (n0 : X.s_0.heap.get? a = none) (nL : a ≠ X.env.locals) (nC : ∀ x c, X.env.cells.lookup x = some c → c ≠ a) (nP : ∀ p ∈ X.pn ++ pins, p.1 ≠ a) (new : ObjOk X.prog X.w (upd H a o) s.heap a o) :
    Inv X pins σ (upd H a o) s := by
  have ne0 : ∀ {b : Addr} {u : Obj}, X.s_0.heap.get? b = some u → b ≠ a := fun {b u} e z => by
    rw [z, n0] at e
    cases e
  refine ⟨I.ok, I.os, I.bare, ⟨I.base.keep, I.base.slot, fun b u e n hx => ?_, I.base.there, fun b xs e => ?_, fun b u v e => ?_, fun b ps e => ?_⟩, I.loc, I.cell, ?_, fun x c e => ?_, fun p hp => ?_, I.hok.laidN (fun _ _ z => z) na new, I.len⟩
  · rw [upd_ne (ne0 e)]
    exact I.base.free b u e n hx
  · rw [upd_ne (ne_of_none (I.base.tups b xs e) na)]
    exact I.base.tups b xs e
  · rw [upd_ne (ne_of_none (I.base.frzs b u v e) na)]
    exact I.base.frzs b u v e
  · obtain ⟨more, z⟩ := I.base.tbls b ps e
    exact ⟨more, by rw [upd_ne (ne_of_none z na)]; exact z⟩
  · rw [upd_ne (Ne.symm nL)]
    exact I.free
  · rw [upd_ne (nC x c e)]
    exact I.freeC x c e
  · obtain ⟨e, n, r⟩ := I.pin p hp
    exact ⟨e, by rw [upd_ne (nP p hp)]; exact n, r⟩
end
end MP

/-! try: .. except C as n: .., the exception being a value from the handler on (the road of L2.ps_try_as) -/
namespace MP
open PySem PySem.Spec PyProof.Rows L2
def endH (i : Nat) (fl : Fl) (S : Sto) : R Fl := match fl with
  | .nx ρ => .ok (.nx (ρ.set i none)) S
  | .bk ρ => .ok (.bk (ρ.set i none)) S
  | .ct ρ => .ok (.ct (ρ.set i none)) S
  | .rt d => .ok (.rt d) S
  | .ex _ _ _ => .bad
def catchH (i : Nat) (tab : Addr → Option Bool) (ls : LS) (fl : Fl) (S : Sto) : R Fl := match fl with
  | .ex C fs ρ => match tab C with
    | some true => (ls (ρ.set i (some (.exn C fs))) S).bind (endH i)
    | some false => .ok (.ex C fs ρ) S
    | none => .bad
  | fl => .ok fl S
def lTryA (i : Nat) (tab : Addr → Option Bool) (lb ls : LS) : LS := fun ρ S => (lb ρ S).bind (catchH i tab ls)
theorem ER.clr {K : PySem.W.Frag} {m : List Addr} {H : Hp} {σ : L2.St} {ρ : Ev} (r : ER K m H σ ρ) (i : Nat) : ER K m H (σ.set i none) (ρ.set i none) := ⟨fun j d e => by
  by_cases hj : i = j
  · subst hj
    by_cases hi : i < ρ.length
    · rw [List.getElem?_set_self hi] at e
      cases e
    · rw [List.getElem?_eq_none (by simpa using hi)] at e
      cases e
  · rw [List.getElem?_set_ne hj] at e ⊢
    exact r.at_ j d e, by simp [r.len]⟩
section
variable {X : Cx} {x n : Str} {c : Value} {i : Nat} {body suite : List Stmt} {b₀ : Stmt} {np pos pos' : Pos} {lb ls : LS} {tab : Addr → Option Bool}
theorem psl_tryA (hs : X.stack = X.env :: X.outer) (hf : X.env.frame = some X.env.locals) (hN : X.N.Nodup) (hi : X.N[i]? = some n) (hln : X.env.kindOf n = some .local) (hc : Names X x c) (hex : X.ex = [])
    (htab : ∀ C b, tab C = some b → PySem.W.exmOne X.K (.ref C) c = some b)
    (hb : ∀ (pn : List (Addr × Obj)) (xe : Value → Shared → Prop), PassesOwn (model X.prog X.w) X.A X.env xe → PSsL (X.tr pn xe) body lb)
    (hsu : ∀ (a : Addr) (pn : List (Addr × Obj)), PSsL (X.suite a pn) (b₀ :: suite) ls) :
    PSL X (.Try body [.ExceptHandler (some (.Name x np)) (some n) (b₀ :: suite) pos'] [] [] pos) (lTryA i tab lb ls) := by
  refine ⟨fun pins s σ H D I ⟨m, ρ, S, x0, er, hl, h⟩ => ?_⟩
  have ok := I.ok
  have hfr : X.A.frames = some (X.env :: X.outer) := by rw [ok.frames, hs]
  have hloc : Loc X.env.scope n := .inl hln
  have hval : ∀ {fl : Fl} {S1 : Sto}, lb ρ S = .ok fl S1 → lTryA i tab lb ls ρ S = catchH i tab ls fl S1 := fun {fl S1} q => by
    unfold lTryA
    rw [q]
    rfl
  obtain ⟨fl0, S0, q0⟩ := h.ok
  obtain ⟨fl1, S1, q1, q2⟩ := bind_nbad q0
  refine wpAny_Try_except ?_
  refine wpAny_mono ((hb (X.pn ++ pins) (fun e s₁ => wpAny (model X.prog X.w) X.A (noteFrame e X.env) (fun _ s₂ => wpAny (model X.prog X.w) X.A (setFlight e none) (fun _ s₃ =>
    wpAny (model X.prog X.w) X.A (handleBy e X.env [.ExceptHandler (some (.Name x np)) (some n) (b₀ :: suite) pos']) (SP X pins D) X.xe s₃) X.xe s₂) X.xe s₁) PassesOwn.looking).run [] s σ H D (I.toTry _)
      ⟨m, ρ, S, x0, er, hl, ⟨⟨fl1, S1, q1⟩, fun ρ' S' q σ' H' z => h.nx ρ' S' ((hval q).trans rfl) σ' H' z, fun d S' q v H' z => h.rt d S' ((hval q).trans rfl) v H' z, fun ρ' S' q σ' H' z => h.bk ρ' S' ((hval q).trans rfl) σ' H' z, fun ρ' S' q σ' H' z => h.ct ρ' S' ((hval q).trans rfl) σ' H' z, ?_⟩⟩) (fun f s1 hsp => ?_) (fun e s1 he => he)
  · intro C fs ρ' S' q u s' xx
    have hv := hval q
    obtain ⟨a, B, sI, pins', σ', H', cls, d, rfl, J', nb, up, sky, na, os, ag, wc, dd, vs, m', wd, hxd, e', x', vfs, er', hl'⟩ := xx
    subst wc
    subst wd
    have J : Inv X pins σ' H' sI := J'.ofTry ok
    have sky' : Sky B (X.env :: X.outer) a (Zc (.ref C) (some dd)) X.env.locals s'.heap := by rw [← hs]; exact sky
    show wpAny (model X.prog X.w) X.A (noteFrame (.ref a) X.env) _ _ _
    refine Sky.land Zc.steady hfr hf sky' fun h3 fl3 up3 => ?_
    have J3 : Inv X pins σ' H' { s' with heap := h3 } := J.landed nb fl3.1 (up.trans up3) os ag
    obtain ⟨oe3, vs3, he3, hz3, hd3⟩ := fl3.there
    have notFr : ∀ {h : Heap} {o : Obj} {vs : Array Value}, h.FunFrames B (X.env :: X.outer) → h.get? a = some o → o.data = .fields vs → a ∉ frs (X.env :: X.outer) := fun {h o vs} ff e dd hm => by
      obtain ⟨_, o', e', hnf⟩ := ff.mem hm
      rw [e] at e'; cases e'
      exact hnf _ dd
    have nfr := notFr fl3.2.2.1 he3 hd3
    have nL : a ≠ X.env.locals := fun z => nfr (List.mem_filterMap.mpr ⟨X.env, List.mem_cons_self, by rw [hf, z]⟩)
    have nF : a ∉ X.fs := fun hm => by
      obtain ⟨e, he, q⟩ := List.mem_filterMap.mp hm
      exact nfr (List.mem_filterMap.mpr ⟨e, List.mem_cons_of_mem _ he, q⟩)
    have hBa : B.get? a = none := fl3.2.1
    have hIa : sI.heap.get? a = none := by
      cases z : sI.heap.get? a with
      | none => rfl
      | some o =>
        have z2 := nb a o z (by rw [hs]; exact nfr)
        rw [hBa] at z2
        cases z2
    have n0 : X.s_0.heap.get? a = none := by
      cases z : X.s_0.heap.get? a with
      | none => rfl
      | some o =>
        obtain ⟨o', z2⟩ := J.base.there a o z (by rw [hex]; simp)
        rw [hIa] at z2
        cases z2
    have nC : ∀ y c, X.env.cells.lookup y = some c → c ≠ a := fun y c e z => by
      obtain ⟨w, o, z2, _⟩ := J.cell y c e
      rw [z, hIa] at z2
      cases z2
    have nP : ∀ p ∈ X.pn ++ pins, p.1 ≠ a := fun p hp z => by
      have z2 := (J.pin p hp).1
      rw [z, hIa] at z2
      cases z2
    have S3 := J3.suite he3 hd3 na nL nF
    refine wpAny_handleBy_cons (codeAny_handlers_test ?_) (by intro q; cases q)
    have LT : PySem.W.Looks (model X.prog X.w) h3 (typeOf (.ref a)) (.ref C) := fun A Q E s k q => wpAny_typeOf_ref (k _ _ he3) (by rw [hz3.1]; exact q)
    cases hb1 : tab C with
    | none =>
      obtain ⟨f2, S2, z⟩ := h.ok
      rw [hv] at z
      unfold catchH at z
      dsimp only at z
      rw [hb1] at z
      cases z
    | some b =>
    have LM := PySem.W.exm_one (M := model X.prog X.w) (J3.kIn) LT (htab C b hb1)
    have test : ∀ {Q : Value → Shared → Prop} {E : Value → Shared → Prop}, Q c { s' with heap := h3 } → wpAny (model X.prog X.w) (X.A.mark (some (.ref a))) (eval (.Name x np) X.env) Q E { s' with heap := h3 } := fun {Q E} q => by
      obtain ⟨hg, hdbg, hm | ⟨hm, hv, hnn⟩⟩ := hc
      · exact ld_glob (X := X.suite a ((a, oe3) :: (X.pn ++ pins))) S3 hg hm q hdbg
      · exact ld_blt (X := X.suite a ((a, oe3) :: (X.pn ++ pins))) S3 hg hm hv q hnn hdbg
    refine test (LM.here ?_)
    cases b with
    | true =>
      refine codeAny_handlers_suite_as ?_
      refine HandSPX.lands_againZ fl3 fun h4 fl4 up4 => ?_
      have J4 : Inv X pins σ' H' { s' with heap := h4 } := J.landed nb fl4.1 ((up.trans up3).trans up4) os ag
      obtain ⟨oe4, vs4, he4, hz4, hd4⟩ := fl4.there
      have I5 : Inv X pins σ' (upd H' a (ExV C (some dd) a)) { s' with heap := h4 } := inv_adopt J4 na n0 nL nC nP (exV_ok he4 hz4 hd4)
      have x5 : SR X.K m' (upd H' a (ExV C (some dd) a)) S' := x'.fresh na
      have e5 : Ext m' H' m' (upd H' a (ExV C (some dd) a)) := Ext.fresh na
      have hdd : dd ≠ a := fun z => by
        rw [z, na] at hxd
        cases hxd
      have ndd : dd ∉ m' := fun z => by
        have mu := x'.mut z
        rw [hxd] at mu
        exact mu
      have w5 : VR X.K m' (upd H' a (ExV C (some dd) a)) (.ref a) (.exn C fs) := .exnD (x'.nin na) ndd upd_same (.inr (by rw [upd_ne hdd]; exact hxd)) (vfs.ext e5 x'.muts)
      have S4 := inv_suiteA (a := a) I5
      have hcat : lTryA i tab lb ls ρ S = (ls (ρ'.set i (some (.exn C fs))) S').bind (endH i) := by
        rw [hv]
        unfold catchH
        dsimp only
        rw [hb1]
      rw [hcat] at h
      obtain ⟨f3, S3', q3⟩ := h.ok
      obtain ⟨f4, S4', q4, q5⟩ := bind_nbad q3
      have hend : ∀ {fl : Fl} {S2 : Sto}, ls (ρ'.set i (some (.exn C fs))) S' = .ok fl S2 → (ls (ρ'.set i (some (.exn C fs))) S').bind (endH i) = endH i fl S2 := fun {fl S2} q => by rw [q]; rfl
      have e6 := e'.trans e5
      refine store_ok (X := X.suite a (X.pn ++ pins)) (v := .ref a) S4 hN hi hloc rfl (fun s5 S5 => ?_) (.inr hln)
      refine wpAny_mono ((hsu a (X.pn ++ pins)).run [] s5 _ _ { nx := fun σ6 H6 => D.nx (σ6.set i none) H6, rt := D.rt, bk := fun σ6 H6 => D.bk (σ6.set i none) H6, ct := fun σ6 H6 => D.ct (σ6.set i none) H6 } S5
        ⟨m', ρ'.set i (some (.exn C fs)), S', x5, (er'.ext e5 x'.muts).set w5, by simp [hl'], ⟨⟨f4, S4', q4⟩, fun ρ2 S2 q σ6 H6 z => ?_, fun d2 S2 q v6 H6 z => ?_, fun ρ2 S2 q σ6 H6 z => ?_, fun ρ2 S2 q σ6 H6 z => ?_, fun C2 fs2 ρ2 S2 q u2 s2 z => ?_⟩⟩) (fun f s6 hsp => ?_) (fun _ _ z => False.elim z)
      · obtain ⟨m6, e7, x7, er7, hl7⟩ := z
        exact h.nx (ρ2.set i none) S2 (hend q) _ _ ⟨m6, e6.trans e7, x7, er7.clr i, by simp [hl7]⟩
      · exact h.rt d2 S2 (hend q) _ _ (z.left e6)
      · obtain ⟨m6, e7, x7, er7, hl7⟩ := z
        exact h.bk (ρ2.set i none) S2 (hend q) _ _ ⟨m6, e6.trans e7, x7, er7.clr i, by simp [hl7]⟩
      · obtain ⟨m6, e7, x7, er7, hl7⟩ := z
        exact h.ct (ρ2.set i none) S2 (hend q) _ _ ⟨m6, e6.trans e7, x7, er7.clr i, by simp [hl7]⟩
      · rw [hend q] at q3
        cases q3
      have end_ : ∀ {σ6 : L2.St} {H6 : Hp} {Q : Shared → Prop}, Inv (X.suite a (X.pn ++ pins)) [] σ6 H6 s6 → (∀ s7, Inv X pins (σ6.set i none) H6 s7 → Q s7) →
          wpAny (model X.prog X.w) X.A (do bindName X.env n .none; unbindBehindTheSuite X.env n pos') (fun _ s7 => Q s7) X.xe s6 := fun {σ6 H6 Q} S6 hq => gone_ok (inv_unsuiteA S6 ok) hN hi hln hq
      cases f with
      | next =>
        obtain ⟨σ6, H6, S6, q6⟩ := hsp
        exact end_ S6 fun s7 J7 => ⟨_, _, J7, q6⟩
      | brk =>
        obtain ⟨σ6, H6, S6, q6⟩ := hsp
        exact end_ S6 fun s7 J7 => ⟨_, _, J7, q6⟩
      | cont =>
        obtain ⟨σ6, H6, S6, q6⟩ := hsp
        exact end_ S6 fun s7 J7 => ⟨_, _, J7, q6⟩
      | ret u =>
        obtain ⟨v6, σ6, H6, S6, r6, q6⟩ := hsp
        exact end_ S6 fun s7 J7 => ⟨_, _, _, J7, r6, q6⟩
    | false =>
      show wpAny _ X.A (handleBy (.ref a) X.env []) _ _ _
      refine wpAny_handleBy_nil ?_
      obtain ⟨k1, k2, k3, oe, vs4, T, oT, ts', he, hz, hd, h1, hr⟩ := id fl3
      unfold PySem.passOn
      refine wpAny_bind (wpAny_field he hd h1 ?_)
      rw [if_neg (show ¬ ((Value.ref T == Value.none) = true) from by simp)]
      have hcat : lTryA i tab lb ls ρ S = .ok (.ex C fs ρ') S' := by
        rw [hv]
        unfold catchH
        dsimp only
        rw [hb1]
      have fin : wpAny (model X.prog X.w) X.A (setFlight (.ref a) X.env.frame) (fun _ s4 => wpAny (model X.prog X.w) X.A (throw (.ref a) : Sem Flow) (SP X pins D) X.xe s4) X.xe { s' with heap := h3 } := by
        rw [hf]
        refine HandSPX.setFlight_upZ fl3 fun h4 hh4 up4 => wpAny_throw (h.ex C fs ρ' S' hcat _ _ ?_)
        exact ⟨a, B, sI, pins, σ', H', .ref C, some dd, rfl, J, nb, (up.trans up3).trans up4, .inr (.inr (by rw [hs]; exact hh4)), na, os, ag, rfl, dd, vs, m', rfl, hxd, e', x', vfs, er', hl'⟩
      first
        | exact wpAny_bind (wpAny_pure (wpAny_bind fin))
        | exact wpAny_bind fin
  · cases f with
    | next =>
      obtain ⟨σ', H', J', q⟩ := hsp
      exact wpAny_execs_nil ⟨σ', H', J'.ofTry ok, q⟩
    | brk =>
      obtain ⟨σ', H', J', q⟩ := hsp
      exact ⟨σ', H', J'.ofTry ok, q⟩
    | cont =>
      obtain ⟨σ', H', J', q⟩ := hsp
      exact ⟨σ', H', J'.ofTry ok, q⟩
    | ret u =>
      obtain ⟨v, σ', H', J', r, q⟩ := hsp
      exact ⟨v, σ', H', J'.ofTry ok, r, q⟩
end
end MP

/-! raise C(e, ..), C an own class with an __init__ of its own -/
namespace MP
open PySem PySem.Spec PyProof.Rows L2
theorem upd_del {H : Hp} {a dx : Addr} {o u v w : HO} (n : H a = none) (ne : dx ≠ a) : upd (del (upd (upd (upd H a o) dx u) a v) a) dx w = upd H dx w := by
  funext b
  unfold upd del
  by_cases h1 : b = dx
  · rw [if_pos h1, if_pos h1]
  · rw [if_neg h1, if_neg h1]
    by_cases h2 : b = a
    · rw [if_pos h2, h2, n]
    · rw [if_neg h2]
      show (if b = a then some v else if b = dx then some u else if b = a then some o else H b) = H b
      rw [if_neg h2, if_neg h1, if_neg h2]
section
variable {X : Cx} {e : Expr} {es : List Expr} {ta : TA} {p pos : Pos}
/-- L2.pmk_oex with the guards (its lines) -/
theorem pmk_oexG {CX : CXT} {x : Str} {C fI : Addr} {k : Nat} {fd : FuncData} {ps : List Str} {sp : Sp} {ds : List Value} {dvs : List V} (T : OexC X.K C) (iC : PySem.W.findIn X.K (.ref C) "__init__" = some (some (.ref fI))) (tI : PySem.W.typeIn X.K (.ref fI) = some (.type "function"))
    (F1 : MP.FnOk X.prog X.w X.K X.mg X.base CX k fI fd ps sp) (hr : MP.Room (k + 1) X.A) (hb : Binds X.K fd ps ds) (hd : Vals dvs ds) (hx : Passes CX X (fun _ _ _ => False)) (hg : Gl X x) (hm : X.mg x = some (.ref C)) (ha : PA X (e :: es) ta)
    (hdb : (x == ("__debug__" : Str)) = false := by decide) (he : starEach (e :: es) X.env = (false, eval e X.env) :: starEach es X.env := by rfl) (hpl : (backTo pos (starEach es X.env)).any (·.1) = false := by rfl) :
    PMk X (.Call (.Name x p) (e :: es) [] pos) (tMkO C sp dvs ta) := by
  intro pins s σ H Q I h
  obtain ⟨nm, q, N, bs, bm, sn, sub, ab, col, dd, k0, k1, k2, k3, k5, hC, hbm⟩ := T.cls
  refine wpAny_Call_Name_kw (ld_glob I hg hm ?_ hdb)
  refine PySem.W.callWith_K (h₀ := X.base) I.ok.mod.kin T.kC (thn (ha.run pos pins s σ H _ I h) fun us s1 ⟨vs, H1, I1, r1, hz, q1⟩ => ⟨I1.kIn, ?_⟩) he hpl
  show wpAny _ _ (call (.ref C) us) _ _ _
  obtain ⟨hp, g, dr, tk, os⟩ := s1
  have hsz : hp.objs.size ≤ hp.objs.size + 1 := Nat.le_succ _
  have hn : H1 (hp.objs.size + 1) = none := I1.hok.fresh hsz
  have hq := q1 (hp.objs.size + 1) hn
  have kk : ∀ b o, hp.get? b = some o → ((hp.push (PySem.W.kdv_tup us)).push (PySem.HandSPX.excO C hp.objs.size)).get? b = some o := fun b o e => Heap.get?_push_of_some _ (Heap.get?_push_of_some _ e)
  have hget : ((hp.push (PySem.W.kdv_tup us)).push (PySem.HandSPX.excO C hp.objs.size)).get? (hp.objs.size + 1) = some (PySem.HandSPX.excO C hp.objs.size) := by heap_get
  have I2 : Inv X pins σ (upd H1 (hp.objs.size + 1) (exo (hp.objs.size + 1) C none)) ⟨(hp.push (PySem.W.kdv_tup us)).push (PySem.HandSPX.excO C hp.objs.size), g, dr, tk, os⟩ :=
    I1.laid (t' := tk) (a := hp.objs.size + 1) (o := exo (hp.objs.size + 1) C none) (h' := (hp.push (PySem.W.kdv_tup us)).push (PySem.HandSPX.excO C hp.objs.size)) kk hsz (exo_ok hget)
  have r2 : Vals (V.ref (hp.objs.size + 1) :: (vs ++ dvs)) (Value.ref (hp.objs.size + 1) :: (us ++ ds)) := .cons rfl (r1.append hd)
  have hl : (Value.ref (hp.objs.size + 1) :: us ++ ds).length = ps.length := by
    have e := r2.length
    rw [F1.len _ _ _ _ hq] at e
    exact e.symm
  have hus : us.length ≤ sizeLine := by
    rw [← Paired.length r1, sizeLine_eq]
    omega
  refine wpAny_call (PySem.HandSPX.call_own F.excBase_ValueError (fun Y => PySem.HandSPX.refsVE_contains Y bm hbm) (I1.kIn _ _ hC) (PySem.W.looks_findIn I1.kIn iC) (fun self => PySem.W.bind_fn I1.kIn self tI) hus
    (codeAny_mono (F1.run _ X.stack _ _ ⟨Value.ref (hp.objs.size + 1) :: us, []⟩ (Value.ref (hp.objs.size + 1) :: (us ++ ds)) _ _ (fun _ _ _ => False) (hr.make C us []) (I2.env0.make C us []) (hb _ (Value.ref (hp.objs.size + 1) :: us) I2.kIn hl) r2 hq) fun r s' hq' => ?_))
  cases r with
  | error er => exact hx pins σ _ _ er s' I2 hq'
  | ok fl =>
    cases fl with
    | ret u =>
      obtain ⟨v, H2, os2, bare2, un2, hok2, rv, ev, d, fs, ea, ed, hd1, q2⟩ := hq'
      subst ev
      obtain ⟨h2, g2, d2, t2, os'⟩ := s'
      exact ⟨rv, mk_end (raises_own T.exC T.tyC) I1 hsz kk un2 hok2 os2 bare2 ea ed hd1 q2⟩
    | next => exact False.elim hq'
    | brk => exact False.elim hq'
    | cont => exact False.elim hq'
end
section
variable {X : Cx} {e : Expr} {pos pos' p : Pos} {es : List Expr} {t : LA} {x : Str} {k : Nat} {f C : Addr} {fd : FuncData} {ps fs : List Str}
def lRaiseE (C : Addr) (fs : List Str) (t : LA) : LS := fun ρ S => liftX ρ (t ρ S) fun ds S1 => if ds.length = fs.length then .ok (.ex C (fs.zip ds).reverse ρ) S1 else .bad
theorem psl_raiseE (hc : X.calm = true) (M : MkE X.K C f fs) (Fn : FnE X.prog X.w X.K X.mg X.base k f fd ps fs) (hr : Room (k + 1) X.A) (hg : Gl X x) (hm : X.mg x = some (.ref C)) (hb : Binds X.K fd ps [])
    (ha : PAL X (e :: es) t) (hdb : (x == ("__debug__" : Str)) = false := by decide) (he : starEach (e :: es) X.env = (false, eval e X.env) :: starEach es X.env := by rfl) (hpl : (backTo pos (starEach es X.env)).any (·.1) = false := by rfl) (hz : fs.length ≤ 900 := by decide) :
    PSL X (.Raise (some (.Call (.Name x p) (e :: es) [] pos)) none pos') (lRaiseE C fs t) := by
  refine ⟨fun pins s σ H D I ⟨m, ρ, S, x0, er, hl, h⟩ => ?_⟩
  have hp : Hope X σ m H (t ρ S) := HS.hope h er hl x0
  refine (ps_raise (W := fun cls d σ' H' => ∃ ds S1, t ρ S = .ok ds S1 ∧ ds.length = fs.length ∧ WS X.K m H C (fs.zip ds).reverse ρ S1 cls d σ' H') hc (fun u s' z => ?_)
    (pmk_oexG M.T M.i M.t Fn hr hb .nil passL hg hm ha.pa hdb he hpl)).run pins s σ H D I ⟨m, ρ, S, x0, er, hp, fun ds S1 q vs H1 m1 e1 x1 w1 => ?_⟩
  · obtain ⟨_, _, _, _, _, _, _, _, _, _, _, _, _, _, _, _, ds, S1, q, hd, _⟩ := id z
    have hv : lRaiseE C fs t ρ S = .ok (.ex C (fs.zip ds).reverse ρ) S1 := by unfold lRaiseE; rw [q]; show (if ds.length = fs.length then _ else _) = _; rw [if_pos hd]
    refine h.ex C _ ρ S1 hv u s' (XE.imp z fun cls d σ' H' w => ?_)
    obtain ⟨ds2, S2, q2, _, w⟩ := w
    rw [q] at q2
    cases q2
    exact w
  · have hd : ds.length = fs.length := by
      obtain ⟨fl, S', z⟩ := h.ok
      unfold lRaiseE at z
      rw [q] at z
      by_cases hd : ds.length = fs.length
      · exact hd
      · rw [show liftX ρ (R.ok ds S1) (fun ds S1 => if ds.length = fs.length then (R.ok (.ex C (fs.zip ds).reverse ρ) S1 : R Fl) else .bad) = (if ds.length = fs.length then (R.ok (.ex C (fs.zip ds).reverse ρ) S1 : R Fl) else .bad) from rfl, if_neg hd] at z
        cases z
    have l1 : vs.length = fs.length := by rw [w1.length]; exact hd
    refine ⟨by omega, fun a na => ?_⟩
    rw [List.append_nil]
    refine ⟨a, C, vs, rfl, l1, M.T, M.no, upd_same, fun dx n ne => ?_⟩
    rw [upd_ne ne] at n
    refine ⟨rfl, dx, (fs.zip vs).reverse, upd_same, by rw [upd_ne ne, upd_same], n, ds, S1, q, hd, ?_⟩
    rw [upd_del na ne]
    have E1 : Ext m1 H1 m1 (upd H1 dx (.xd (fs.zip vs).reverse)) := Ext.fresh n
    exact ⟨rfl, dx, (fs.zip vs).reverse, m1, rfl, upd_same, e1.trans E1, x1.fresh n, vfs_rev (vfs_zip (w1.ext E1 x1.muts)), er.ext (e1.trans E1) x0.muts, hl⟩
end
end MP

namespace MP
open PySem PySem.Spec PyProof.Rows L2
/-- a short text times a small int -/
def strRep (x : Str) (n : Int) : Str := if n < 1 then Str.empty else if (n == 1 || x.length == 0) = true then x else ⟨(List.replicate n.toNat x.cps).foldl (· ++ ·) #[]⟩
def gMulS : G2 := fun S dx dy => match vw S dx, vw S dy with
  | .str x, .int n => if 0 ≤ n ∧ n ≤ 1000 ∧ x.length ≤ 1000 ∧ (strRep x n).length ≤ sizeLine then some (.str (strRep x n)) else none
  | _, _ => none
theorem opl_mulS {X : Cx} : OpL X (binaryOp .Mult) gMulS := ⟨fun pins s σ H m S x y dx dy d v u I q rx ry rv ru e => by
  unfold gMulS at e
  split at e
  · rename_i a n e1 e2
    split at e
    · rename_i hz
      obtain ⟨h0, h1, h2, h3⟩ := hz
      cases e
      have ea := vw_str rx e1
      have eb := vw_int ry e2
      subst ea
      subst eb
      obtain ⟨t, rfl⟩ := rv
      obtain ⟨t2, rfl⟩ := ru
      have hsz : (sizeLine : Nat) ≥ 1000000 := by rw [sizeLine_eq]; omega
      refine PySem.P.mul_str ?_ (fun a1 a2 => ?_) (fun a1 a2 => ?_) ?_
      · rw [decide_eq_false (by omega), decide_eq_false (by omega)]; rfl
      · have : (2 ^ 63 - 1) / n ≥ (2 ^ 63 - 1) / 1000 := by
          have hn : 0 < n := by omega
          rw [ge_iff_le, Int.le_ediv_iff_mul_le hn]
          have : (2 ^ 63 - 1 : Int) / 1000 * n ≤ (2 ^ 63 - 1 : Int) / 1000 * 1000 := Int.mul_le_mul_of_nonneg_left h1 (by decide)
          have z : (2 ^ 63 - 1 : Int) / 1000 * 1000 ≤ 2 ^ 63 - 1 := by decide
          omega
        have z : (2 ^ 63 - 1 : Int) / 1000 ≥ 1000 := by decide
        omega
      · unfold Builtin.Str.tooLong
        refine decide_eq_false ?_
        have : a.length * n.toNat ≤ 1000 * 1000 := Nat.mul_le_mul h2 (by omega)
        omega
      · unfold strRep at h3 ⊢
        by_cases c1 : n < 1
        · rw [if_pos c1] at h3 ⊢
          rw [if_pos c1]
          exact ⟨h3, .str _, H, m, I.tok _, ⟨_, rfl⟩, Ext.refl, q, .str _⟩
        · rw [if_neg c1] at h3 ⊢
          rw [if_neg c1]
          by_cases c2 : (n == 1 || a.length == 0) = true
          · rw [if_pos c2] at h3 ⊢
            rw [if_pos c2]
            exact ⟨.str _, H, m, I, ⟨_, rfl⟩, Ext.refl, q, .str _⟩
          · rw [if_neg c2] at h3 ⊢
            rw [if_neg c2]
            exact ⟨h3, .str _, H, m, I.tok _, ⟨_, rfl⟩, Ext.refl, q, .str _⟩
    · cases e
  · cases e⟩
end MP

/-! repr of deep data, an empty dict in it too (the road of ReprK.of_reads) -/
namespace MP
open PySem PySem.Spec PyProof.Rows L2
mutual
def toPE : D → Option PyData
  | .non => some .none
  | .bl b => some (.bool b)
  | .int i => some (.int i)
  | .str s => some (.str s)
  | .tup xs => (toPEs xs).map .tuple
  | .ftup xs => (toPEs xs).map .tuple
  | .lst xs => (toPEs xs).map .list
  | .dct _ [] => some (.dict [])
  | _ => none
def toPEs : List D → Option (List PyData)
  | [] => some []
  | x :: xs => (toPE x).bind fun a => (toPEs xs).map fun b => a :: b
end
mutual
inductive De (K : PySem.W.Frag) (H : Hp) : V → PyData → Prop
  | non : De K H .non .none
  | bl (b : Bool) : De K H (.bl b) (.bool b)
  | int (i : Int) : De K H (.int i) (.int i)
  | str (x : Str) : De K H (.str x) (.str x)
  | lst {a : Addr} {xs : List V} {ds : List PyData} : SqL K H a xs → DeAll K H xs ds → De K H (.ref a) (.list ds)
  | tup {a : Addr} {xs : List V} {ds : List PyData} : SqT K H a xs → DeAll K H xs ds → De K H (.ref a) (.tuple ds)
  | dk {a : Addr} : H a = some (.dK []) → De K H (.ref a) (.dict [])
  | dt {a : Addr} : H a = some (.dT []) → De K H (.ref a) (.dict [])
inductive DeAll (K : PySem.W.Frag) (H : Hp) : List V → List PyData → Prop
  | nil : DeAll K H [] []
  | cons {v : V} {vs : List V} {d : PyData} {ds : List PyData} : De K H v d → DeAll K H vs ds → DeAll K H (v :: vs) (d :: ds)
end
section
variable {K : PySem.W.Frag} {m : List Addr} {H : Hp}
mutual
theorem VR.de {v : V} {d : D} {p : PyData} : VR K m H v d → toPE d = some p → De K H v p
  | .non, e => by simp only [toPE] at e; cases e; exact .non
  | .bl b, e => by simp only [toPE] at e; cases e; exact .bl b
  | .int b, e => by simp only [toPE] at e; cases e; exact .int b
  | .str b, e => by simp only [toPE] at e; cases e; exact .str b
  | @VR.tup _ _ _ a vs ds h r, e => by
    simp only [toPE] at e
    cases q : toPEs ds with
    | none => rw [q] at e; cases e
    | some ps => rw [q] at e; cases e; exact .tup (SqT.of h) (r.des q)
  | @VR.ftup _ _ _ a vs ds o hd h r, e => by
    simp only [toPE] at e
    cases q : toPEs ds with
    | none => rw [q] at e; cases e
    | some ps => rw [q] at e; cases e; exact .tup (SqT.rd (.inr ⟨o, h⟩)) (r.des q)
  | @VR.lst _ _ _ a vs ds n h r, e => by
    simp only [toPE] at e
    cases q : toPEs ds with
    | none => rw [q] at e; cases e
    | some ps => rw [q] at e; cases e; exact .lst (.inl h) (r.des q)
  | @VR.lstK _ _ _ a vs ds o its n hk h1 h2 h3 h4 h5 r, e => by
    simp only [toPE] at e
    cases q : toPEs ds with
    | none => rw [q] at e; cases e
    | some ps => rw [q] at e; cases e; exact .lst (.inr ⟨o, its, n, hk, h1, h2, h3, h4, h5⟩) (r.des q)
  | .dct n h r, e => by
    cases r with
    | nil => simp only [toPE] at e; cases e; exact .dk h
    | cons _ _ => simp only [toPE] at e; cases e
  | .dctT n h r, e => by
    cases r with
    | nil => simp only [toPE] at e; cases e; exact .dt h
    | cons _ _ => simp only [toPE] at e; cases e
  | .obj _ _ _, e => by simp only [toPE] at e; cases e
  | .exn0 _ _, e => by simp only [toPE] at e; cases e
  | .exnD _ _ _ _ _, e => by simp only [toPE] at e; cases e
  | .ref _, e => by simp only [toPE] at e; cases e
theorem VRs.des {v : List V} {d : List D} {p : List PyData} : VRs K m H v d → toPEs d = some p → DeAll K H v p
  | .nil, e => by simp only [toPEs] at e; cases e; exact .nil
  | @VRs.cons _ _ _ v d vs ds h r, e => by
    simp only [toPEs] at e
    cases q : toPE d with
    | none => rw [q] at e; cases e
    | some a =>
      rw [q] at e
      cases q2 : toPEs ds with
      | none => rw [q2] at e; cases e
      | some b => rw [q2] at e; cases e; exact .cons (h.de q) (r.des q2)
end
end
section
variable {X : Cx} {pins : List (Addr × Obj)} {σ : L2.St} {H : Hp} {s : Shared} {prog : Program} {w : World}
theorem de_dict (I : Inv X pins σ H s) {a : Addr} (h : H a = some (.dK []) ∨ H a = some (.dT [])) : (a == sysModules) = false ∧ ∃ o n, s.heap.get? a = some o ∧ o.cls = .type "dict" ∧ o.data = .dict #[] n := by
  rcases h with h | h
  · obtain ⟨_, hs, vs, r, o, es, ep, e1, e2, e3, e4, e5, _⟩ := (show ObjOk X.prog X.w H s.heap a (.dK []) from I.hok a _ h)
    cases r
    obtain ⟨l⟩ := es
    have : l = [] := by cases e5; rfl
    subst this
    exact ⟨hs, o, ep, e1, e2.1, e3⟩
  · obtain ⟨_, hs, xs, r, o, es, ep, e1, e2, e3, e4, _⟩ := (show ObjOk X.prog X.w H s.heap a (.dT []) from I.hok a _ h)
    cases r
    obtain ⟨l⟩ := es
    have : l = [] := by simpa using e4
    subst this
    exact ⟨hs, o, ep, e1, e2.1, e3⟩
mutual
theorem De.reprK (I : Inv X pins σ H s) : ∀ (d : PyData) (v : V) (u : Value), De X.K H v d → RelV v u → d.showable = true → d.shown.length ≤ sizeLine → ∃ as bs, Reads s.heap u d as ∧ ReadAtMost s.heap d.depth bs ∧ ReprK prog w bs s.heap d.depth u d.shown
  | .none, _, _, h, r, _, _ => by
    cases h
    cases r
    exact ⟨_, [], Reads.none, (fun _ h => nomatch h), by simp only [PyData.shown]; exact .of_is ReprIs.none _ _ _⟩
  | .bool b, _, _, h, r, _, _ => by
    cases h
    cases r
    exact ⟨_, [], Reads.bool b, (fun _ h => nomatch h), by simp only [PyData.shown]; exact .of_is (ReprIs.bool b) _ _ _⟩
  | .int i, _, _, h, r, hs, _ => by
    cases h
    obtain ⟨t, rfl⟩ := r
    exact ⟨_, [], Reads.int i t, (fun _ h => nomatch h), by simp only [PyData.shown]; exact .of_is (ReprIs.int t (by simpa [PyData.showable] using hs)) _ _ _⟩
  | .str x, _, _, h, r, _, hz => by
    cases h
    obtain ⟨t, rfl⟩ := r
    exact ⟨_, [], Reads.str x t, (fun _ h => nomatch h), by simp only [PyData.shown]; exact .of_is (ReprIs.str x t (by simpa only [PyData.shown] using hz)) _ _ _⟩
  | .list ds, _, _, h, r, hs, hz => by
    have hz' : (listText (PyData.shownAll ds)).length ≤ sizeLine := by simpa only [PyData.shown] using hz
    cases h with
    | @lst a _ _ hq ha =>
      cases r
      obtain ⟨its, rv, ⟨o, n, h1, h2, _, h3⟩, _⟩ := I.list hq
      obtain ⟨as, bs, hr, hb, hk⟩ := De.reprAllK I ds _ its ha rv (by simpa [PyData.showable] using hs) (fun t ht => Nat.le_trans (listText_mem_le ht) hz')
      have r : Reads s.heap (.ref a) (.list ds) _ := .list h1 h2 h3 hr
      have hna : a ∉ bs := not_mem_of_deeper r (by simp only [PyData.depth]; omega) hb
      refine ⟨_, a :: bs, r, ReadAtMost.cons r (by simp only [PyData.depth]; omega) hb, ?_⟩
      simp only [PyData.depth, PyData.shown]
      cases its with
      | nil =>
        have h4' : ReadsAll s.heap [] ds _ := hr
        cases h4'
        simp only [PyData.shownAll, listText_nil]
        exact ReprK.listEmpty h1 h2 h3
      | cons x l => exact ReprK.list h1 h2 h3 hna (by simpa using hk.length_eq) (fun i y e => hk.item i y (by simpa using e))
  | .tuple ds, _, _, h, r, hs, hz => by
    have hz' : (tupleText (PyData.shownAll ds)).length ≤ sizeLine := by simpa only [PyData.shown] using hz
    cases h with
    | @tup a _ _ hq ha =>
      cases r
      obtain ⟨its, rv, ⟨o, h1, h2, n, h3⟩, _⟩ := I.tuple hq
      obtain ⟨as, bs, hr, hb, hk⟩ := De.reprAllK I ds _ its ha rv (by simpa [PyData.showable] using hs) (fun t ht => Nat.le_trans (tupleText_mem_le ht) hz')
      have r : Reads s.heap (.ref a) (.tuple ds) _ := .tuple h1 h2 h3 hr
      have hna : a ∉ bs := not_mem_of_deeper r (by simp only [PyData.depth]; omega) hb
      refine ⟨_, a :: bs, r, ReadAtMost.cons r (by simp only [PyData.depth]; omega) hb, ?_⟩
      simp only [PyData.depth, PyData.shown]
      exact ReprK.tuple h1 h2 h3 hna hk
  | .dict kvs, _, _, h, r, hs, hz => by
    have key : ∀ {a : Addr} {u : Value}, RelV (.ref a) u → kvs = [] → (H a = some (.dK []) ∨ H a = some (.dT [])) → ∃ as bs, Reads s.heap u (.dict kvs) as ∧ ReadAtMost s.heap (PyData.depth (.dict kvs)) bs ∧ ReprK prog w bs s.heap (PyData.depth (.dict kvs)) u (PyData.shown (.dict kvs)) := by
      intro a u r e hh
      subst e
      cases r
      obtain ⟨hsys, o, n, h1, h2, h3⟩ := de_dict I hh
      have r : Reads s.heap (.ref a) (.dict []) _ := .dict h1 h2 h3 .nil .nil
      refine ⟨_, [a], r, ReadAtMost.cons r (n := 0) (Nat.zero_le _) (fun _ h => nomatch h), ?_⟩
      simp only [PyData.depth, PyData.shown]
      exact ReprK.dict h1 h2 h3 hsys (by simp) .nil
    cases h with
    | dk hh => exact key r rfl (.inl hh)
    | dt hh => exact key r rfl (.inr hh)
theorem De.reprAllK (I : Inv X pins σ H s) : ∀ (ds : List PyData) (vs : List V) (us : List Value), DeAll X.K H vs ds → Vals vs us → PyData.showableAll ds = true → (∀ t ∈ PyData.shownAll ds, t.length ≤ sizeLine) →
    ∃ as bs, ReadsAll s.heap us ds as ∧ ReadAtMost s.heap (PyData.depthAll ds) bs ∧ ReprAllK prog w bs s.heap (PyData.depthAll ds) us (PyData.shownAll ds)
  | [], _, _, h, r, _, _ => by
    cases h
    cases r
    exact ⟨_, [], ReadsAll.nil, (fun _ h => nomatch h), by simp only [PyData.shownAll]; exact .nil⟩
  | d :: ds, _, _, h, r, hs, hz => by
    have hs' : d.showable = true ∧ PyData.showableAll ds = true := by simpa [PyData.showableAll] using hs
    cases h with
    | cons h1 h2 =>
      cases r with
      | cons r1 r2 =>
        obtain ⟨as1, b1, q1, hb1, k1⟩ := De.reprK I d _ _ h1 r1 hs'.1 (hz _ (by simp only [PyData.shownAll]; exact List.mem_cons_self ..))
        obtain ⟨as2, b2, q2, hb2, k2⟩ := De.reprAllK I ds _ _ h2 r2 hs'.2 (fun t ht => hz t (by simp only [PyData.shownAll]; exact List.mem_cons_of_mem _ ht))
        refine ⟨_, b1 ++ b2, ReadsAll.cons q1 q2, ?_, ?_⟩
        · intro b hm
          simp only [PyData.depthAll]
          rcases List.mem_append.mp hm with hm | hm
          · obtain ⟨d', as', r', hd'⟩ := hb1 b hm
            exact ⟨d', as', r', Nat.le_trans hd' (Nat.le_max_left _ _)⟩
          · obtain ⟨d', as', r', hd'⟩ := hb2 b hm
            exact ⟨d', as', r', Nat.le_trans hd' (Nat.le_max_right _ _)⟩
        · simp only [PyData.depthAll, PyData.shownAll]
          exact .cons ((k1.more fun b hb => List.mem_append_left _ hb).level_le (Nat.le_max_left _ _)) (k2.more_le (fun b hb => List.mem_append_right _ hb) (Nat.le_max_right _ _))
end
end
end MP

/-! repr(d) of deep data; list(..) put into the store; list + list -/
namespace MP
open PySem PySem.Spec PyProof.Rows L2
section
variable {X : Cx} {pins : List (Addr × Obj)} {σ : L2.St} {H : Hp} {s : Shared}
theorem showsBy_of_de (I : Inv X pins σ H s) {a : Addr} {d : PyData} (h : De X.K H (.ref a) d) (hs : d.showable = true) (hsz : d.shown.length ≤ sizeLine) : ∃ T idr, ShowsBy X.prog X.w s.heap a d T idr := by
  have dk : ∀ {a : Addr}, (H a = some (.dK []) ∨ H a = some (.dT [])) → ∃ T idr, ShowsBy X.prog X.w s.heap a (.dict []) T idr := by
    intro a hh
    obtain ⟨hsys, o, n, h1, h2, h3⟩ := de_dict I hh
    have hz' : (dictText []).length ≤ sizeLine := by rw [sizeLine_eq]; decide
    refine ⟨"dict", "dict.__repr__", F.slot_dict_repr, F.slot_dict_str, F.slot_dict_format, fun s' hk0 => ⟨o, hk0 _ _ h1, h2⟩, fun A E s' Q hg hu hk0 hQ => ?_⟩
    simp only [PyData.depth] at hu
    simp only [PyData.shown, PyData.shownKv_eq] at hQ
    exact call_dict_reprK (as := []) h1 h2 h3 hsys (by simp) .nil hg (fun b _ => Clear.nil b) hu hk0 hQ hz'
  cases h with
  | @lst a _ ds hq ha =>
    have hz' : (listText (PyData.shownAll ds)).length ≤ sizeLine := by simpa only [PyData.shown] using hsz
    obtain ⟨its, rv, ⟨o, n, h1, h2, _, h3⟩, _⟩ := I.list hq
    obtain ⟨as, bs, hr, hb, hk⟩ := De.reprAllK (prog := X.prog) (w := X.w) I ds _ its ha rv (by simpa [PyData.showable] using hs) (fun t ht => Nat.le_trans (listText_mem_le ht) hz')
    have r : Reads s.heap (.ref a) (.list ds) _ := .list h1 h2 h3 hr
    have hna : a ∉ bs := not_mem_of_deeper r (by simp only [PyData.depth]; omega) hb
    refine ⟨"list", "list.__repr__", F.slot_list_repr.toG, F.slot_list_str, F.slot_list_format, fun s' hk0 => ⟨o, hk0 _ _ h1, h2⟩, fun A E s' Q hg hu hk0 hQ => ?_⟩
    simp only [PyData.depth] at hu
    simp only [PyData.shown] at hQ
    cases its with
    | nil =>
      have h4' : ReadsAll s.heap [] ds _ := hr
      cases h4'
      simp only [PyData.shownAll, listText_nil] at hQ
      exact call_list_repr_empty ⟨o, hk0 _ _ h1, h2⟩ (hk0 _ _ h1) h3 (hQ s'.heap _ _ fun _ _ e => e)
    | cons x l =>
      exact call_list_reprK h1 h2 h3 hna (by simpa using hk.length_eq) (fun i y e => hk.item i y (by simpa using e)) hg (fun b _ => Clear.nil b) hu hk0 hQ hz'
  | @tup a _ ds hq ha =>
    have hz' : (tupleText (PyData.shownAll ds)).length ≤ sizeLine := by simpa only [PyData.shown] using hsz
    obtain ⟨its, rv, ⟨o, h1, h2, n, h3⟩, _⟩ := I.tuple hq
    obtain ⟨as, bs, hr, hb, hk⟩ := De.reprAllK (prog := X.prog) (w := X.w) I ds _ its ha rv (by simpa [PyData.showable] using hs) (fun t ht => Nat.le_trans (tupleText_mem_le ht) hz')
    have r : Reads s.heap (.ref a) (.tuple ds) _ := .tuple h1 h2 h3 hr
    have hna : a ∉ bs := not_mem_of_deeper r (by simp only [PyData.depth]; omega) hb
    refine ⟨"tuple", "tuple.__repr__", F.slot_tuple_repr, F.slot_tuple_str, F.slot_tuple_format, fun s' hk0 => ⟨o, hk0 _ _ h1, h2⟩, fun A E s' Q hg hu hk0 hQ => ?_⟩
    simp only [PyData.depth] at hu
    simp only [PyData.shown] at hQ
    exact call_tuple_reprK h1 h2 h3 hna hk hg (fun b _ => Clear.nil b) hu hk0 hQ hz'
  | dk hh => exact dk (.inl hh)
  | dt hh => exact dk (.inr hh)
end
def gReprD : GC := fun S ds => match ds with
  | [d] => match toPE d with
    | some p => if p.showable = true ∧ p.shown.length ≤ sizeLine ∧ p.depth ≤ 40 then some (.str p.shown) else none
    | none => none
  | _ => none
theorem cl_reprD {X : Cx} (hg : X.A.guards = some []) (hu : X.A.units + 64 < cLine) : CallL X (.builtin "repr") gReprD := ⟨fun pins s σ H m S xs ds d us I q r rv e => by
  unfold gReprD at e
  split at e
  · rename_i d0
    split at e
    · rename_i p hp
      split at e
      · rename_i hz
        obtain ⟨hs, hsz, hd⟩ := hz
        cases e
        obtain ⟨v, rfl, w⟩ := r.one
        have de := w.de hp
        obtain ⟨u, rfl, ru⟩ := vals1 rv
        have fin : ∀ (h' : Heap) (u' tk : Nat), (∀ b o, s.heap.get? b = some o → h'.get? b = some o) → VP X pins σ m H (.str p.shown) S (.str p.shown u') { s with heap := h', toks := tk } :=
          fun h' u' tk hk => ⟨.str p.shown, H, m, I.kept (t' := tk) hk, ⟨u', rfl⟩, Ext.refl, q, .str _⟩
        have byRef : ∀ (a : Addr), De X.K H (.ref a) p → u = .ref a → wpAny (model X.prog X.w) X.A (call (.builtin "repr") [u]) (VP X pins σ m H (.str p.shown) S) X.xe s := by
          intro a ha eu
          subst eu
          obtain ⟨T, idr, SB⟩ := showsBy_of_de I ha hs hsz
          exact call_repr_slot (by omega) (SB.typeIs s fun _ _ e => e) SB.slotRepr (SB.call X.A.in1 X.xe s _ hg (by show X.A.units + 1 + p.depth < cLine; omega) (fun _ _ e => e) fun h' u tk hk => ⟨_, _, rfl, fin h' u tk hk⟩)
        cases de with
        | non => cases ru; exact PySem.P.repr_of_none (fin s.heap _ _ fun _ _ e => e)
        | bl b => cases ru; exact PySem.P.repr_of_bool (fin s.heap _ _ fun _ _ e => e)
        | int i =>
          obtain ⟨t, rfl⟩ := ru
          exact PySem.P.repr_of_int (by simpa [PyData.showable] using hs) (fin s.heap _ _ fun _ _ e => e)
        | str x =>
          obtain ⟨t, rfl⟩ := ru
          exact PySem.P.repr_of_str (fin s.heap _ _ fun _ _ e => e) (by simpa only [PyData.shown] using hsz)
        | lst a1 a2 => exact byRef _ (.lst a1 a2) ru
        | tup a1 a2 => exact byRef _ (.tup a1 a2) ru
        | dk a1 => exact byRef _ (.dk a1) ru
        | dt a1 => exact byRef _ (.dt a1) ru
      · cases e
    · cases e
  · cases e⟩
/-! ### list(..) put into the store -/
def gItems (S : Sto) (ds : List D) : Option (List D) := match ds with
  | [d] => match vw S d with
    | .lst xs => some xs
    | .tup xs => some xs
    | _ => none
  | _ => none
def lListN (t : LA) : LE := fun ρ S => (t ρ S).bind fun ds S1 => match gItems S1 ds with
  | some ys => .ok (.ref S1.length) (S1 ++ [.lst ys])
  | none => .bad
theorem pel_listN {X : Cx} {x : Str} {e : Expr} {es : List Expr} {t : LA} {p pos : Pos} (hg : Gl X x) (hm : X.mg x = none) (hv : bootBuiltins x = some (.type "list")) (ha : PAL X (e :: es) t) (hn : x ≠ "__name__" := by decide) (hdb : (x == ("__debug__" : Str)) = false := by decide)
    (he : starEach (e :: es) X.env = (false, eval e X.env) :: starEach es X.env := by rfl) (hpl : (backTo pos (starEach es X.env)).any (·.1) = false := by rfl) : PEL X (.Call (.Name x p) (e :: es) [] pos) (lListN t) := by
  refine ⟨fun pins s σ H m ρ S I x r hp => ?_⟩
  refine wpAny_Call_Name_kw (ld_blt I hg hm hv ?_ hn hdb)
  refine PyProof.Rows.callWith_type1 (run_seqA ha I x r hp fun ds S1 q1 vs us s1 H1 m1 I1 rv e1 x1 w1 r1 hp1 => ?_) he hpl
  cases qi : gItems S1 ds with
  | none => rw [qi] at hp1; exact absurd rfl hp1.1
  | some ys =>
    have e0 : lListN t ρ S = .ok (.ref S1.length) (S1 ++ [.lst ys]) := by unfold lListN; rw [q1, bind_ok, qi]
    rw [e0]
    unfold gItems at qi
    split at qi
    · obtain ⟨v, rfl, rv'⟩ := w1.one
      have fin : ∀ {a : Addr} {vs : List V}, v = .ref a → (SqL X.K H1 a vs ∨ SqT X.K H1 a vs) → VRs X.K m1 H1 vs ys → wpAny (model X.prog X.w) X.A (call (.type "list") us) (VPr X pins σ m H (.ok (.ref S1.length) (S1 ++ [.lst ys]))) X.xe s1 := by
        intro a vs ev h1 r1
        subst ev
        refine thn (call_list_of pins s1 σ H1 _ us (fun v' H' => ∃ l, H1 l = none ∧ v' = .ref l ∧ H' = upd H1 l (.lst vs)) I1 rv ⟨a, vs, rfl, h1, fun l hl => ⟨l, hl, rfl, rfl⟩⟩) fun u s2 ⟨v2, H2, I2, rv2, l, hl, ev2, eH⟩ => ?_
        subst ev2
        subst eH
        obtain ⟨m', z1, z2, z3⟩ := qv_newL x1 hl r1
        exact (vpr_of ⟨.ref l, _, m', I2, rv2, z1, z2, z3⟩).left e1
      split at qi
      · rename_i zs e1'
        cases qi
        obtain ⟨a, vs, ev, h1, r1⟩ := vw_lst x1 rv' e1'
        exact fin ev (.inl h1) r1
      · rename_i zs e1'
        cases qi
        obtain ⟨a, vs, ev, h1, r1⟩ := vw_tup rv' e1'
        exact fin ev (.inr (SqT.of h1)) r1
      · cases qi
    · cases qi
end MP

/-! list + list; isinstance tables of exceptions -/
namespace MP
open PySem PySem.Spec PyProof.Rows L2
theorem list_add_any (l : Addr) (ol : Obj) (items : Array Value) (n : Nat) (b : Addr) (ob : Obj) (items2 : Array Value) (n2 : Nat) (hz : items.size + items2.size ≤ sizeLine) :
    Meets (Builtin.«list.__add__» ⟨[.ref l, .ref b], []⟩) (fun _ R s => s.heap.get? l = some ol ∧ ol.data = .seq items n ∧ s.heap.get? b = some ob ∧ ob.cls = .type "list" ∧ ob.data = .seq items2 n2 ∧
      R (.ok (.ret (Value.ref s.heap.objs.size))) { s with heap := s.heap.push { cls := Value.type "list", data := Data.seq (items ++ items2) } }) :=
  .of_wp fun prog w A R s h => by
    obtain ⟨hl, hd, hb, hc, hd2, h⟩ := h
    have f3 := sub_list_list
    have tb : s.TypeIs (.ref b) "list" := ⟨ob, hb, hc⟩
    unfold Builtin.«list.__add__»
    refine wpAny_bind (wpAny_of_eq (a := ((Value.ref l : Value), [Value.ref b])) (by first | rfl | (simp only [slotArgs]; rfl)) ?_)
    refine wpAny_bind (wpAny_isInstance tb f3 ?_)
    simp only [Bool.not_true, Bool.false_eq_true, if_false]
    first
      | exact wpAny_bind (wpAny_bind (wpAny_listItems hl hd (wpAny_bind (wpAny_listItems hb hd2 (wpAny_newObj_type (wpAny_pure ⟨_, rfl, h⟩) (by first | size_fits | (show (items ++ items2).size ≤ sizeLine; rw [Array.size_append]; omega)))))))
      | exact wpAny_bind (wpAny_listItems hl hd (wpAny_bind (wpAny_listItems hb hd2 (wpAny_bind (wpAny_newObj_type (wpAny_pure ⟨_, rfl, h⟩) (by first | size_fits | (show (items ++ items2).size ≤ sizeLine; rw [Array.size_append]; omega)))))))

section
variable {X : Cx}
theorem opl_catL : OpL X (binaryOp .Add) gCatL := ⟨fun pins s σ H m S x y dx dy d v u I q rx ry ex ey e => by
  obtain ⟨i, j, e1, e2, e3⟩ := g2L_inv e
  split at e3
  · rename_i hz
    cases e3
    obtain ⟨a, xs, rfl, ha, r1⟩ := vw_lst q rx e1
    obtain ⟨b, ys, rfl, hb, r2⟩ := vw_lst q ry e2
    obtain rfl : v = Value.ref a := ex
    obtain rfl : u = Value.ref b := ey
    obtain ⟨its, rv, ⟨o, n, h1, h2, hn, h3⟩, hz1⟩ := I.list ha
    obtain ⟨its2, rv2, ⟨o2, n2, g1, g2, gn, g3⟩, hz2⟩ := I.list hb
    have hl : its.length + its2.length ≤ sizeLine := by rw [← rv.length, ← rv2.length, r1.length, r2.length]; exact hz
    refine concat_meets ⟨_, h1, h2⟩ ⟨_, g1, g2⟩ noFill_list_add seq_list_add F.slot_list_add F.entry_list_add (F.args_list_add_2 _ _) (list_add_any a o its.toArray n b o2 its2.toArray n2 (by rw [List.size_toArray, List.size_toArray]; exact hl)) ⟨h1, h3, g1, g2, g3, ?_⟩
    have ea : its.toArray ++ its2.toArray = (its ++ its2).toArray := by simp
    rw [ea]
    have hf : H s.heap.objs.size = none := I.hok.fresh (Nat.le_refl _)
    have hl2 : (xs ++ ys).length ≤ sizeLine := by rw [List.length_append, r1.length, r2.length]; exact hz
    exact ⟨.ref s.heap.objs.size, upd H s.heap.objs.size (.lst (xs ++ ys)), m, I.laid (t' := s.toks) (fun b u e => Heap.get?_push_of_some _ e) (Nat.le_refl _) ⟨hl2, its ++ its2, 0, rv.append rv2, Heap.get?_push_size _ rfl⟩, rfl, Ext.fresh hf, q.fresh hf, vr_newLst q hf (r1.append r2)⟩
  · cases e3⟩
def gAdd2 : G2 := fun S x y => (gAdd S x y).or (gCatL S x y)
theorem opl_add2 : OpL X (binaryOp .Add) gAdd2 := opl_add.or opl_catL
end
theorem mem2 {C A B : Addr} (h : C ∈ [A, B]) : C = A ∨ C = B := by simpa using h
open Classical in
noncomputable def tabE (K : PySem.W.Frag) (c : Value) : Addr → Option Bool := fun D => if ExcC K D then PySem.W.kitOne K (.ref D) c else none
theorem tabE_ok (K : PySem.W.Frag) (c : Value) : IsEOk K c (tabE K c) := ⟨fun C b h => by
  unfold tabE at h
  split at h
  · exact ⟨h, ‹_›⟩
  · cases h⟩
theorem tabE_at {K : PySem.W.Frag} {c : Value} {D : Addr} {b : Bool} (E : ExcC K D) (h : PySem.W.kitOne K (.ref D) c = some b) : tabE K c D = some b := by
  unfold tabE
  rw [if_pos E]; exact h
theorem ise_ok {K : PySem.W.Frag} {c : Value} {D : Addr} {b : Bool} {l : LE} {ρ : Ev} {S S1 : Sto} {fs : List (Str × MP.D)} (E : ExcC K D) (h : PySem.W.kitOne K (.ref D) c = some b) (hl : l ρ S = .ok (.exn D fs) S1) : lIsE (tabE K c) l ρ S = .ok (.bl b) S1 := by
  unfold lIsE
  rw [hl, bind_ok]
  show lift1 ((tabE K c D).map .bl) S1 = _
  rw [tabE_at E h]; rfl
theorem flde_ok {Cs : List Addr} {f : Str} {D : Addr} {l : LE} {ρ : Ev} {S S1 : Sto} {fs : List (Str × MP.D)} {d : MP.D} (hl : l ρ S = .ok (.exn D fs) S1) (hm : D ∈ Cs) (hf : fs.lookup f = some d) : lFldE Cs f l ρ S = .ok d S1 := by
  unfold lFldE
  rw [hl, bind_ok]
  show lift1 (if D ∈ Cs then fs.lookup f else none) S1 = _
  rw [if_pos hm, hf]; rfl
theorem exm_of {K : PySem.W.Frag} {S C : Addr} {b : Bool} (h1 : PySem.W.subIn K (.ref S) (.type "BaseException") = some true) (h2 : PySem.W.hasDictIn K S = true) (h3 : PySem.W.typeIn K (.ref S) = some (.type "type")) (h4 : PySem.W.subIn K (.ref C) (.ref S) = some b) :
    PySem.W.exmOne K (.ref C) (.ref S) = some b := by
  have hc : (PySem.W.clsIn K S).isSome = true := by obtain ⟨cd, hc, _⟩ := PySem.W.any_some h2; rw [hc]; rfl
  unfold PySem.W.exmOne PySem.W.kitCls
  rw [h1]
  simp [hc, h3, h4]
theorem mke_ok {C : Addr} {fs : List Str} {t : LA} {ρ : Ev} {S S1 : Sto} {ds : List D} (h : t ρ S = .ok ds S1) (hl : ds.length = fs.length) : ((t ρ S).bind fun ds S1 => mkE C fs ds S1) = .ok (.exn C (fs.zip ds).reverse) S1 := by
  rw [h, bind_ok]; unfold mkE; rw [if_pos hl]
theorem mkek_ok {C : Addr} {fs ks : List Str} {pk : List Nat} {t : LA} {ρ : Ev} {S S1 : Sto} {ds : List D} (h : t ρ S = .ok ds S1) (hl : ds.length = ks.length) (hp : (pick pk ds).length = fs.length) : ((t ρ S).bind fun es S2 => mkEk C fs ks pk es S2) = .ok (.exn C (fs.zip (pick pk ds)).reverse) S1 := by
  rw [h, bind_ok]; unfold mkEk; rw [if_pos ⟨hl, hp⟩]
end MP

/-! words on texts and lists of texts -/
namespace MP
open PySem PySem.Spec PyProof.Rows L2
section
variable {X : Cx}
/-- a sign in a text -/
def gInSg : G2 := fun S x y => match vw S x, vw S y with
  | .str i, .str z => match i.cps.toList with
    | [c] => some (.bl (decide (c ∈ z.cps.toList)))
    | _ => none
  | _, _ => none
theorem str_one {i : Str} {c : Nat} (h : i.cps.toList = [c]) : i = ⟨#[c]⟩ := by
  obtain ⟨⟨l⟩⟩ := i
  have : l = [c] := h
  rw [this]
theorem opl_inSg : OpL X (compareOp .In) gInSg := .of op_in_sign fun H m S x y dx dy d q rx ry e => by
  unfold gInSg at e
  split at e
  · rename_i i z e1 e2
    split at e
    · rename_i c hc
      cases e
      have h := str_one hc
      subst h
      exact ⟨c, z, vw_str rx e1, vw_str ry e2, qv_same q (.bl _)⟩
    · cases e
  · cases e
def gLeS : G2 := g2S fun i j => some (.bl (!decide (j.cps.toList < i.cps.toList)))
def gGtS : G2 := g2S fun i j => some (.bl (decide (j.cps.toList < i.cps.toList)))
theorem opl_leS : OpL X (compareOp .LtE) gLeS := .of op_le_str fun H m S x y dx dy d q rx ry e => by
  obtain ⟨i, j, e1, e2, e3⟩ := g2S_inv e
  cases e3
  exact ⟨i, j, vw_str rx e1, vw_str ry e2, qv_same q (.bl _)⟩
theorem opl_gtS : OpL X (compareOp .Gt) gGtS := .of op_gt_str fun H m S x y dx dy d q rx ry e => by
  obtain ⟨i, j, e1, e2, e3⟩ := g2S_inv e
  cases e3
  exact ⟨i, j, vw_str rx e1, vw_str ry e2, qv_same q (.bl _)⟩
/-- a text in a list of texts -/
def strsD : List D → Option (List Str)
  | [] => some []
  | .str x :: r => (strsD r).map fun ys => x :: ys
  | _ :: _ => none
theorem strsD_map : ∀ ys : List Str, strsD (ys.map D.str) = some ys
  | [] => rfl
  | y :: ys => by show (strsD (ys.map D.str)).map _ = _; rw [strsD_map ys]; rfl
theorem strsD_eq : ∀ {ds : List D} {ys : List Str}, strsD ds = some ys → ds = ys.map D.str
  | [], ys, h => by cases h; rfl
  | d :: ds, ys, h => by
    cases d with
    | str x =>
      simp only [strsD] at h
      cases q : strsD ds with
      | none => rw [q] at h; cases h
      | some zs => rw [q] at h; cases h; rw [strsD_eq q]; rfl
    | _ => simp [strsD] at h
theorem vrs_strs {K : PySem.W.Frag} {m : List Addr} {H : Hp} : ∀ {vs : List V} {ys : List Str}, VRs K m H vs (ys.map D.str) → vs = ys.map V.str
  | _, [], .nil => rfl
  | _, y :: ys, .cons h r => by cases h; rw [vrs_strs r]; rfl
theorem inV_strs (x : Str) (ys : List Str) : inV (.str x) (ys.map V.str) = decide (x ∈ ys) := by
  unfold inV
  induction ys with
  | nil => simp
  | cons y ys ih =>
    rw [List.map_cons, List.any_cons, ih]
    show ((y == x) || decide (x ∈ ys)) = decide (x ∈ y :: ys)
    by_cases h : y = x
    · subst h; simp
    · have : (y == x) = false := beq_eq_false_iff_ne.mpr h
      simp [this, Ne.symm h]
def gInL : G2 := fun S x y => match vw S x, vw S y with
  | .str i, .lst l => (strsD l).map fun ys => .bl (decide (i ∈ ys))
  | _, _ => none
def gNotInL : G2 := fun S x y => match vw S x, vw S y with
  | .str i, .lst l => (strsD l).map fun ys => .bl (!decide (i ∈ ys))
  | _, _ => none
theorem flat_strs (ys : List Str) : (ys.map V.str).all flatV = true := by simp [flatV]
theorem opl_inL : OpL X (compareOp .In) gInL := .of op_in_seq fun H m S x y dx dy d q rx ry e => by
  unfold gInL at e
  split at e
  · rename_i i l e1 e2
    cases hs : strsD l with
    | none => rw [hs] at e; cases e
    | some ys =>
      rw [hs] at e
      cases e
      have hl := strsD_eq hs
      subst hl
      have ex := vw_str rx e1
      subst ex
      obtain ⟨a, vs, rfl, h1, r⟩ := vw_lst q ry e2
      have hv := vrs_strs r
      subst hv
      refine ⟨a, _, rfl, .inl h1, rfl, flat_strs ys, ?_⟩
      show QV X.K m H S _ (.bl (inV (.str i) (ys.map V.str))) H
      rw [inV_strs]
      exact qv_same q (.bl _)
  · cases e
theorem opl_notInL : OpL X (compareOp .NotIn) gNotInL := .of op_notIn_seq fun H m S x y dx dy d q rx ry e => by
  unfold gNotInL at e
  split at e
  · rename_i i l e1 e2
    cases hs : strsD l with
    | none => rw [hs] at e; cases e
    | some ys =>
      rw [hs] at e
      cases e
      have hl := strsD_eq hs
      subst hl
      have ex := vw_str rx e1
      subst ex
      obtain ⟨a, vs, rfl, h1, r⟩ := vw_lst q ry e2
      have hv := vrs_strs r
      subst hv
      refine ⟨a, _, rfl, .inl h1, rfl, flat_strs ys, ?_⟩
      show QV X.K m H S _ (.bl (!inV (.str i) (ys.map V.str))) H
      rw [inV_strs]
      exact qv_same q (.bl _)
  · cases e
/-- int(a truth), int(an int) -/
def gInt1 : GC := fun _ ds => match ds with
  | [.int i] => some (.int i)
  | [.bl b] => some (.int (if b then 1 else 0))
  | _ => none
theorem cl_int1 : CallL X (.type "int") gInt1 := .of call_int1 fun H m S xs ds d q r e => by
  unfold gInt1 at e
  split at e
  · cases e
    obtain ⟨v, rfl, rv⟩ := r.one
    cases rv
    exact .inl ⟨_, rfl, qv_same q (.int _)⟩
  · cases e
    obtain ⟨v, rfl, rv⟩ := r.one
    cases rv
    exact .inr ⟨_, rfl, qv_same q (.int _)⟩
  · cases e
/-- a power of any number -/
def gPowB : G2 := g2I fun i j => if 0 ≤ j ∧ (Builtin.Int.intBits i : Int) * j ≤ 2 ^ 27 then some (.int (i ^ j.toNat)) else none
theorem opl_powB : OpL X (binaryOp .Pow) gPowB := ⟨fun pins s σ H m S x y dx dy d v u I q rx ry ex ey e => by
  obtain ⟨i, j, e1, e2, e3⟩ := g2I_inv e
  split at e3
  · rename_i hz
    cases e3
    have h1 := vw_int rx e1
    have h2 := vw_int ry e2
    subst h1 h2
    obtain ⟨t, rfl⟩ := ex
    obtain ⟨t2, rfl⟩ := ey
    exact pow_int hz.1 hz.2 ⟨.int _, H, m, I.tok _, ⟨_, rfl⟩, Ext.refl, q, .int _⟩
  · cases e3⟩
end
/-! ### split, join, strip -/
section
variable {X : Cx}
def stSplit : GM := fun S r ds => match r, ds with
  | .str a, [.str b] => if (b.length == 0) = false ∧ a.length + 2 ≤ sizeLine then some (.lst ((Txt.split a b).map D.str), S) else none
  | _, _ => none
theorem mtl_split : MtL X "str.split" stSplit := ⟨fun pins s σ H m S S' x dx d xs ds v us I q r rs rv rvs e => by
  unfold stSplit at e
  split at e
  · rename_i a b
    split at e
    · rename_i hz
      cases e
      cases r
      obtain ⟨w, rfl, rw'⟩ := rs.one
      cases rw'
      exact thn (mt_split pins s σ H _ _ v us (QV X.K m H S _) I rv rvs ⟨a, b, rfl, rfl, hz.1, hz.2, fun p hp => qv_new q hp (vr_newLst q hp VRs.of_strs)⟩) fun _ _ z => vp_of z
    · cases e
  · cases e⟩
def stStripC : GM := fun S r ds => match r, ds with
  | .str a, [.str b] => if a.length ≤ sizeLine then some (.str (Txt.stripChars a b), S) else none
  | _, _ => none
theorem mtl_stripC : MtL X "str.strip" stStripC := ⟨fun pins s σ H m S S' x dx d xs ds v us I q r rs rv rvs e => by
  unfold stStripC at e
  split at e
  · rename_i a b
    split at e
    · rename_i hz
      cases e
      cases r
      obtain ⟨w, rfl, rw'⟩ := rs.one
      cases rw'
      exact thn (mt_stripChars pins s σ H _ _ v us (QV X.K m H S _) I rv rvs ⟨a, b, rfl, rfl, hz, qv_same q (.str _)⟩) fun _ _ z => vp_of z
    · cases e
  · cases e⟩
def stJoin : GM := fun S r ds => match r, ds with
  | .str a, [d] => match vw S d with
    | .lst l => match strsD l with
      | some ys => if (ys.map (·.length)).sum + ys.length * a.length ≤ 16777216 then some (.str (Txt.join a ys), S) else none
      | none => none
    | _ => none
  | _, _ => none
theorem mtl_join : MtL X "str.join" stJoin := ⟨fun pins s σ H m S S' x dx d xs ds v us I q r rs rv rvs e => by
  unfold stJoin at e
  split at e
  · rename_i a d0
    split at e
    · rename_i l hl
      split at e
      · rename_i ys hs
        split at e
        · rename_i hz
          cases e
          cases r
          obtain ⟨w, rfl, rw'⟩ := rs.one
          have he := strsD_eq hs
          subst he
          obtain ⟨p, vs, rfl, h1, r1⟩ := vw_lst q rw' hl
          have hv := vrs_strs r1
          subst hv
          exact thn (mt_join pins s σ H _ _ v us (QV X.K m H S _) I rv rvs ⟨a, p, ys, rfl, rfl, .inl h1, hz, qv_same q (.str _)⟩) fun _ _ z => vp_of z
        · cases e
      · cases e
    · cases e
  · cases e⟩
variable {o e : Expr} {lo le : LE} {apos cpos : Pos}
theorem pel_split (ho : PEL X o lo) (he : PEL X e le)
    (hbase : attributeBase o "split" X.env (eval o X.env) = eval o X.env := by rfl)
    (hfew : ((backTo cpos (starEach [e] X.env)).all (fun x => !x.1) && (backToKw cpos (keywordEach [] X.env)).all (fun x => x.1.isSome)
      && decide ([e].length + ([] : List Keyword).length + (if ([] : List Keyword).isEmpty then 0 else 1) < 30)) = true := by rfl)
    (hline : (apos.endLine == cpos.line) = true := by rfl) (hs : starEach [e] X.env = (false, eval e X.env) :: starEach [] X.env := by rfl) :
    PEL X (.Call (.Attribute o "split" apos) [e] [] cpos) (lBM "str" stSplit lo (aCons le aNil)) :=
  pel_bm PySem.F.plainAttrs_str PySem.F.slot_str_split PySem.F.type_str_split mtl_split ho (pal_cons he pal_nil hs) hbase hfew hline hs
theorem pel_stripC (ho : PEL X o lo) (he : PEL X e le)
    (hbase : attributeBase o "strip" X.env (eval o X.env) = eval o X.env := by rfl)
    (hfew : ((backTo cpos (starEach [e] X.env)).all (fun x => !x.1) && (backToKw cpos (keywordEach [] X.env)).all (fun x => x.1.isSome)
      && decide ([e].length + ([] : List Keyword).length + (if ([] : List Keyword).isEmpty then 0 else 1) < 30)) = true := by rfl)
    (hline : (apos.endLine == cpos.line) = true := by rfl) (hs : starEach [e] X.env = (false, eval e X.env) :: starEach [] X.env := by rfl) :
    PEL X (.Call (.Attribute o "strip" apos) [e] [] cpos) (lBM "str" stStripC lo (aCons le aNil)) :=
  pel_bm PySem.F.plainAttrs_str PySem.F.slot_str_strip PySem.F.type_str_strip mtl_stripC ho (pal_cons he pal_nil hs) hbase hfew hline hs
theorem pel_strjoin (ho : PEL X o lo) (he : PEL X e le)
    (hbase : attributeBase o "join" X.env (eval o X.env) = eval o X.env := by rfl)
    (hfew : ((backTo cpos (starEach [e] X.env)).all (fun x => !x.1) && (backToKw cpos (keywordEach [] X.env)).all (fun x => x.1.isSome)
      && decide ([e].length + ([] : List Keyword).length + (if ([] : List Keyword).isEmpty then 0 else 1) < 30)) = true := by rfl)
    (hline : (apos.endLine == cpos.line) = true := by rfl) (hs : starEach [e] X.env = (false, eval e X.env) :: starEach [] X.env := by rfl) :
    PEL X (.Call (.Attribute o "join" apos) [e] [] cpos) (lBM "str" stJoin lo (aCons le aNil)) :=
  pel_bm PySem.F.plainAttrs_str PySem.F.slot_str_join PySem.F.type_str_join mtl_join ho (pal_cons he pal_nil hs) hbase hfew hline hs
end
end MP

/-! zip of two; pairs of texts by < -/
namespace MP
open PySem PySem.Spec PyProof.Rows L2
def zipD (xs ys : List D) : List D := List.zipWith (fun x y => D.tup [x, y]) xs ys
theorem zipD_get {xs ys : List D} {i : Nat} {d : D} (h : (zipD xs ys)[i]? = some d) : ∃ x y, xs[i]? = some x ∧ ys[i]? = some y ∧ d = .tup [x, y] := by
  unfold zipD at h
  rw [List.getElem?_zipWith] at h
  cases q : xs[i]? with
  | none => rw [q] at h; cases h2 : ys[i]? <;> rw [h2] at h <;> cases h
  | some x =>
    cases q2 : ys[i]? with
    | none => rw [q, q2] at h; cases h
    | some y => rw [q, q2] at h; cases h; exact ⟨x, y, rfl, rfl, rfl⟩
theorem zipD_length (xs ys : List D) : (zipD xs ys).length = min xs.length ys.length := by simp [zipD]
section
variable {K : PySem.W.Frag} {m1 : List Addr} {H1 : Hp}
theorem sql_stays {v : V} {xs : List D} (w : VR K m1 H1 v (.lst xs)) : ∃ a vs, v = .ref a ∧ VRs K m1 H1 vs xs ∧ SqL K H1 a vs ∧ ∀ (m2 : List Addr) (H2 Hx : Hp), Ext m1 H1 m2 H2 → (∀ a o, H2 a = some o → Hx a = some o) → SqL K Hx a vs := by
  cases w with
  | @lst a vs _ n h r =>
    refine ⟨a, vs, rfl, r, .inl h, fun m2 H2 Hx e sup => ?_⟩
    have h2 := e.rd n h
    rcases h2 with h2 | ⟨o, h2⟩
    · exact .inl (.inl (sup _ _ h2))
    · exact .inl (.inr ⟨o, sup _ _ h2⟩)
  | @lstK a vs _ ob its n hk h1 h2 h3 h4 h5 r => exact ⟨a, vs, rfl, r, .inr ⟨ob, its, n, hk, h1, h2, h3, h4, h5⟩, fun _ _ _ _ _ => .inr ⟨ob, its, n, hk, h1, h2, h3, h4, h5⟩⟩
theorem sqt_stays (mu : ∀ a ∈ m1, Mut (H1 a)) {v : V} {xs : List D} (w : VR K m1 H1 v (.tup xs)) : ∃ a vs, v = .ref a ∧ VRs K m1 H1 vs xs ∧ SqT K H1 a vs ∧ ∀ (m2 : List Addr) (H2 Hx : Hp), Ext m1 H1 m2 H2 → (∀ a o, H2 a = some o → Hx a = some o) → SqT K Hx a vs := by
  cases w with
  | @tup a vs _ h r => exact ⟨a, vs, rfl, r, SqT.of h, fun m2 H2 Hx e sup => SqT.of (sup _ _ (tup_ext e mu h))⟩
theorem yl_zip {a b : Addr} {vs ws : List V} {xs ys : List D} (mu : ∀ a ∈ m1, Mut (H1 a)) (ha : ∀ (m2 : List Addr) (H2 Hx : Hp), Ext m1 H1 m2 H2 → (∀ a o, H2 a = some o → Hx a = some o) → SqL K Hx a vs) (hb : ∀ (m2 : List Addr) (H2 Hx : Hp), Ext m1 H1 m2 H2 → (∀ a o, H2 a = some o → Hx a = some o) → SqL K Hx b ws)
    (r : VRs K m1 H1 vs xs) (r' : VRs K m1 H1 ws ys) : Ylds K (Itz K a b) m1 H1 ⟨zipD xs ys, fun _ => True⟩ := fun m2 H2 S2 Hx e x _ sup => by
  have h3 := ha m2 H2 Hx e sup
  have h4 := hb m2 H2 Hx e sup
  have r2 := r.ext e mu
  have r3 := r'.ext e mu
  refine ⟨fun i d hi => ?_, fun i hi => ⟨vs, ws, h3, h4, ?_⟩⟩
  · obtain ⟨y, z, hy, hz, rfl⟩ := zipD_get hi
    obtain ⟨v, hv, w⟩ := r2.getr hy
    obtain ⟨v2, hv2, w2⟩ := r3.getr hz
    refine ⟨⟨vs, ws, v, v2, h3, h4, hv, hv2⟩, fun z H' q => .inr ?_⟩
    obtain ⟨T, z1, z2, ez, hT, eH, q1, q2⟩ := q
    have e1 := q1 vs h3
    have e2 := q2 ws h4
    rw [hv] at e1
    rw [hv2] at e2
    cases e1
    cases e2
    exact ⟨T, [v, v2], _, hT, eH, ez, rfl, .cons w (.cons w2 .nil)⟩
  · have hi' : min xs.length ys.length ≤ i := by rw [← zipD_length]; exact hi
    rw [r.length, r'.length]
    omega
theorem yl_zipT {a b : Addr} {vs ws : List V} {xs ys : List D} (mu : ∀ a ∈ m1, Mut (H1 a)) (ha : ∀ (m2 : List Addr) (H2 Hx : Hp), Ext m1 H1 m2 H2 → (∀ a o, H2 a = some o → Hx a = some o) → SqT K Hx a vs) (hb : ∀ (m2 : List Addr) (H2 Hx : Hp), Ext m1 H1 m2 H2 → (∀ a o, H2 a = some o → Hx a = some o) → SqT K Hx b ws)
    (r : VRs K m1 H1 vs xs) (r' : VRs K m1 H1 ws ys) : Ylds K (RZ.ItzT K a b) m1 H1 ⟨zipD xs ys, fun _ => True⟩ := fun m2 H2 S2 Hx e x _ sup => by
  have h3 := ha m2 H2 Hx e sup
  have h4 := hb m2 H2 Hx e sup
  have r2 := r.ext e mu
  have r3 := r'.ext e mu
  refine ⟨fun i d hi => ?_, fun i hi => ⟨vs, ws, h3, h4, ?_⟩⟩
  · obtain ⟨y, z, hy, hz, rfl⟩ := zipD_get hi
    obtain ⟨v, hv, w⟩ := r2.getr hy
    obtain ⟨v2, hv2, w2⟩ := r3.getr hz
    refine ⟨⟨vs, ws, v, v2, h3, h4, hv, hv2⟩, fun z H' q => .inr ?_⟩
    obtain ⟨T, z1, z2, ez, hT, eH, q1, q2⟩ := q
    have e1 := q1 vs h3
    have e2 := q2 ws h4
    rw [hv] at e1
    rw [hv2] at e2
    cases e1
    cases e2
    exact ⟨T, [v, v2], _, hT, eH, ez, rfl, .cons w (.cons w2 .nil)⟩
  · have hi' : min xs.length ys.length ≤ i := by rw [← zipD_length]; exact hi
    rw [r.length, r'.length]
    omega
end
def zipOf : List D → Option (List D)
  | [.lst xs, .lst ys] => some (zipD xs ys)
  | [.tup xs, .tup ys] => some (zipD xs ys)
  | _ => none
def lZip (t : LA) : LI := fun ρ S => (t ρ S).bind fun ds S1 => match zipOf ds with
  | some items => .ok ⟨items, fun _ => True⟩ S1
  | none => .bad
section
variable {X : Cx} {e e2 : Expr} {t : LA} {p pos tpos : Pos} {elts : List Expr} {kk : Nat}
theorem pil_zip (hg : Gl X "zip") (hm : X.mg "zip" = none) (ha : PAL X [e, e2] t)
    (hs : starEach [e, e2] X.env = (false, eval e X.env) :: starEach [e2] X.env := by rfl) (hpl : (backTo pos (starEach [e2] X.env)).any (·.1) = false := by rfl) :
    PIL X (.Tuple elts kk tpos) (.Call (.Name "zip" p) [e, e2] [] pos) (lZip t) := by
  refine ⟨fun pins s σ H Rr I ⟨m, ρ, S, x, er, hp, k⟩ => ?_⟩
  refine (RZ.pi_zipA (elts := elts) (kk := kk) (tpos := tpos) (p := p) (pos := pos) hg hm ha.pa hs hpl).run pins s σ H Rr I ⟨m, ρ, S, x, er, hope_seq hp, fun ds S1 q vs H1 m1 e1 x1 w => ?_⟩
  unfold lZip at hp
  rw [q, bind_ok] at hp
  cases hz : zipOf ds with
  | none => rw [hz] at hp; exact absurd rfl hp.1
  | some items =>
    have e0 : lZip t ρ S = .ok ⟨items, fun _ => True⟩ S1 := by unfold lZip; rw [q, bind_ok, hz]
    unfold zipOf at hz
    split at hz
    · cases hz
      obtain ⟨y, z, rfl, w1, w2⟩ := w.two
      obtain ⟨a, us, rfl, r1, h1, st1⟩ := sql_stays w1
      obtain ⟨b, ws, rfl, r2, h2, st2⟩ := sql_stays w2
      exact ⟨a, b, us, ws, rfl, .inl ⟨h1, h2, k _ S1 e0 _ H1 m1 e1 x1 (yl_zip x1.muts st1 st2 r1 r2)⟩⟩
    · cases hz
      obtain ⟨y, z, rfl, w1, w2⟩ := w.two
      obtain ⟨a, us, rfl, r1, h1, st1⟩ := sqt_stays x1.muts w1
      obtain ⟨b, ws, rfl, r2, h2, st2⟩ := sqt_stays x1.muts w2
      exact ⟨a, b, us, ws, rfl, .inr ⟨h1, h2, k _ S1 e0 _ H1 m1 e1 x1 (yl_zipT x1.muts st1 st2 r1 r2)⟩⟩
    · cases hz
/-! ### pairs of texts by < -/
def ltP (a b c d : Str) : Bool := if a = c then (if b = d then false else decide (b.cps.toList < d.cps.toList)) else decide (a.cps.toList < c.cps.toList)
def gLtP : G2 := g2T fun xs ys => match xs, ys with
  | [.str a, .str b], [.str c, .str d] => some (.bl (ltP a b c d))
  | _, _ => none
theorem rc_lt_str {A : Around} {s : Shared} (a b : Str) (t u : Tok) : Ob.RcOp .Lt A s (.str a t) (.str b u) (decide (a.cps.toList < b.cps.toList)) := fun _ _ _ _ h => by
  show wpAny _ _ (compareOp .Lt (.str a t) (.str b u)) _ _ _
  exact PyProof.Rows.lt_str h
theorem opl_ltP (hu : X.A.units + 64 < cLine) : OpL X (compareOp .Lt) gLtP := ⟨fun pins s σ H m S x y dx dy d v u I q rx ry ex ey e0 => by
  obtain ⟨xs, ys, e1, e2, e3⟩ := (show ∃ i j, vw S dx = .tup i ∧ vw S dy = .tup j ∧ _ from g2T_inv e0)
  split at e3
  · rename_i a b c d'
    cases e3
    obtain ⟨p, vs, rfl, h1, r1⟩ := vw_tup rx e1
    obtain ⟨p2, ws, rfl, h2, r2⟩ := vw_tup ry e2
    obtain rfl : v = Value.ref p := ex
    obtain rfl : u = Value.ref p2 := ey
    obtain ⟨v1, v2, rfl, w1, w2⟩ := r1.two
    obtain ⟨z1, z2, rfl, k1, k2⟩ := r2.two
    cases w1
    cases w2
    cases k1
    cases k2
    obtain ⟨its, rv, pp, hz⟩ := I.tuple (SqT.of h1)
    obtain ⟨its2, rv2, pp2, hz2⟩ := I.tuple (SqT.of h2)
    cases rv with
    | cons ra rr =>
      cases rr with
      | cons rb rn =>
        cases rn
        obtain ⟨ta, rfl⟩ := ra
        obtain ⟨tb, rfl⟩ := rb
        cases rv2 with
        | cons rc rr2 =>
          cases rr2 with
          | cons rd rn2 =>
            cases rn2
            obtain ⟨tc, rfl⟩ := rc
            obtain ⟨td, rfl⟩ := rd
            have R := Ob.RcOp.tuples_lt (A := X.A) (s := s) (e := fun j => if j = 0 then (a == c) else (b == d')) (r := fun j => if j = 0 then decide (a.cps.toList < c.cps.toList) else decide (b.cps.toList < d'.cps.toList)) pp pp2 (by omega)
              (fun j h1 h2 => by
                match j, h1 with
                | 0, _ => exact SeqAt.EqAt.str_str a ta c tc
                | 1, _ => exact SeqAt.EqAt.str_str b tb d' td
                | n + 2, h => simp at h; omega)
              (fun j h1 h2 _ => by
                match j, h1 with
                | 0, _ => exact rc_lt_str a c ta tc
                | 1, _ => exact rc_lt_str b d' tb td
                | n + 2, h => simp at h; omega)
            have e5 : Ob.lexAt (fun j => if j = 0 then (a == c) else (b == d')) (fun j => if j = 0 then decide (a.cps.toList < c.cps.toList) else decide (b.cps.toList < d'.cps.toList)) (decide ([Value.str a ta, Value.str b tb].toArray.size < [Value.str c tc, Value.str d' td].toArray.size)) 0 (min [Value.str a ta, Value.str b tb].toArray.size [Value.str c tc, Value.str d' td].toArray.size) = ltP a b c d' := by
              show (if (a == c) = true then (if (b == d') = true then decide ((2 : Nat) < 2) else decide (b.cps.toList < d'.cps.toList)) else decide (a.cps.toList < c.cps.toList)) = ltP a b c d'
              unfold ltP
              simp
            rw [e5] at R
            exact R X.prog X.w X.xe _ ⟨.bl (ltP a b c d'), H, m, I, rfl, Ext.refl, q, .bl _⟩
  · cases e3⟩
def gLt2 : G2 := fun S x y => ((gLtI S x y).or (gLtS S x y)).or (gLtP S x y)
theorem opl_lt2 (hu : X.A.units + 64 < cLine) : OpL X (compareOp .Lt) gLt2 := (opl_ltI.or opl_ltS).or (opl_ltP hu)
def gLe2 : G2 := fun S x y => (gLeI S x y).or (gLeS S x y)
theorem opl_le2 : OpL X (compareOp .LtE) gLe2 := opl_leI.or opl_leS
def gGt2 : G2 := fun S x y => (gGtI S x y).or (gGtS S x y)
theorem opl_gt2 : OpL X (compareOp .Gt) gGt2 := opl_gtI.or opl_gtS
end
end MP

/-! len(set(texts)) of any number of texts (the road of HandS.Strs, which serves one text at most) -/
namespace MP
open PySem PySem.Spec PyProof.Rows L2
/-- how many of the first i texts are met for the first time -/
def cntS (xs : List Str) : Nat → Nat
  | 0 => 0
  | i + 1 => if (xs.take i).any (· == xs.getD i Str.empty) = true then cntS xs i else cntS xs i + 1
theorem cntS_le (xs : List Str) : ∀ i, cntS xs i ≤ i
  | 0 => Nat.le_refl _
  | i + 1 => by
    have := cntS_le xs i
    unfold cntS
    split <;> omega
abbrev metS (xs : List Str) (i : Nat) : Str → Bool := fun k => (xs.take i).any (· == k)
theorem met_succ {xs : List Str} {i : Nat} (h : i < xs.length) (k : Str) : metS xs (i + 1) k = (metS xs i k || decide (k = xs.getD i Str.empty)) := by
  unfold metS
  rw [List.take_succ_eq_append_getElem h, List.any_append]
  have e : xs.getD i Str.empty = xs[i] := by simp [h]
  rw [e]
  by_cases q : k = xs[i]
  · subst q; simp
  · have : (xs[i] == k) = false := beq_eq_false_iff_ne.mpr fun z => q z.symm
    simp [this, q]
section
variable {P : Program} {w : World} {A : Around} {R : Result → Shared → Prop} {E : Value → Shared → Prop} {s : Shared}
theorem loopS {It : Addr} {fp wr : List Addr} {G : Array GenState → Array GenState → Prop} {n : Nat} {Pv : Nat → Value → Prop} {St : Nat → Shared → Prop} (W : WalksS P w A.in1 It fp wr G n Pv St) (a : Addr) (ha : a ∉ fp) (xs : List Str) (hn : xs.length = n) (hz : n ≤ 4000)
    (hv : ∀ i v, Pv i v → ∃ t, v = .str (xs.getD i Str.empty) t) : ∀ (k i : Nat) (s : Shared), n - i = k → i ≤ n → St i s → s.heap.SetOf (PySem.strKind P w) a (metS xs i) (cntS xs i) →
      (∀ s', Moved (a :: wr) G s s' → s'.heap.SetOf (PySem.strKind P w) a (metS xs n) (cntS xs n) → R (.ok (.ret .none)) s') →
      codeAny (model P w) A (.builtin "set.update.loop" ⟨[.ref a, .ref It], []⟩) R s := by
  have naw : a ∉ wr := fun z => ha (W.sub _ z)
  have sub : ∀ b ∈ wr, b ∈ a :: wr := fun b hb => List.mem_cons_of_mem _ hb
  have stay : ∀ {h h' : Heap} {T : Str → Bool} {c : Nat}, (∀ o, h.get? a = some o → h'.get? a = some o) → h.SetOf (PySem.strKind P w) a T c → h'.SetOf (PySem.strKind P w) a T c := fun {h h' T c} k ⟨o, es, ep, t, e, r⟩ => ⟨o, es, ep, t, k o e, r⟩
  intro k
  induction k with
  | zero =>
    intro i s e0 hi st hS hR
    obtain rfl : i = n := by omega
    refine codeAny_builtin PyProof.Rows.F.entry_set_update_loop ?_
    rw [Around.under_plainId PyProof.Rows.F.plain_set_update_loop _]
    show wpAny _ A.in1 (pyNext (.ref It) >>= _) _ _ s
    exact wpAny_bind (W.done s _ _ st fun s' mv => wpAny_pure (hR s' (mv.mono sub) (stay (fun o e => mv.heap a _ naw e) hS)))
  | succ k ih =>
    intro i s e0 hi st hS hR
    have lt : i < n := by omega
    refine codeAny_builtin PyProof.Rows.F.entry_set_update_loop ?_
    rw [Around.under_plainId PyProof.Rows.F.plain_set_update_loop _]
    show wpAny _ A.in1 (pyNext (.ref It) >>= _) _ _ s
    refine wpAny_bind (W.item i s _ _ lt st fun v s' pv st' mv => ?_)
    obtain ⟨t, rfl⟩ := hv i v pv
    have hS' := stay (fun o e => mv.heap a _ naw e) hS
    show wpAny _ A.in1 (holding [Value.str (xs.getD i Str.empty) t] (setAdd a (.str (xs.getD i Str.empty) t)) >>= _) _ _ s'
    refine wpAny_bind (wpAny_holding ?_)
    unfold setAdd
    refine wpAny_holding (wpAny_bind ((PySem.strKind P w).pyHash (k := xs.getD i Str.empty) (strKind_is _ _ _ _) ?_))
    have hc := cntS_le xs i
    refine wpAny_setAddHashed_of (knd := PySem.strKind P w) (s := { s' with toks := s'.toks + 1 }) (strKind_is _ _ _ _) rfl hS' (by unfold scanBound; omega) fun h' hb hS2 => ?_
    have hS3 : h'.SetOf (PySem.strKind P w) a (metS xs (i + 1)) (cntS xs (i + 1)) := SetOf_congr hS2 (fun k => (met_succ (by omega) k).symm) rfl
    refine wpAny_pure ⟨plainId_quiet PyProof.Rows.F.plain_set_update_loop _, ih (i + 1) _ (by omega) lt (W.frame _ s' _ _ st' (Nat.le_succ _) fun b hb' o e => ?_) hS3 fun s'' mv2 hS4 => ?_⟩
    · rw [hb.2 b fun z : b = a => ha (by rw [← z]; exact hb')]; exact e
    · refine hR s'' (Moved.trans W.gtrans ((mv.mono sub).then_heap (Nat.le_succ _) fun b o hb' e => ?_) mv2) hS4
      rw [hb.2 b fun z : b = a => hb' (by rw [z]; exact List.mem_cons_self)]; exact e
set_option maxHeartbeats 3200000 in
theorem set_texts {l : Addr} {vs : Array Value} {xs : List Str} {Q : Value → Shared → Prop} (hd : A.handled = none) (hl : s.heap.IsList l vs) (hx : StrsAre vs.toList xs) (hz : xs.length ≤ 4000)
    (q : ∀ (h' : Heap) (tk : Nat), h'.SetOf (PySem.strKind P w) s.heap.objs.size (metS xs vs.size) (cntS xs vs.size) → (∀ b o, b < s.heap.objs.size → s.heap.get? b = some o → h'.get? b = some o) → Q (.ref s.heap.objs.size) { s with heap := h', toks := tk }) :
    wpAny (model P w) A (call (.type "set") [.ref l]) Q E s := by
  -- the new, empty set
  obtain ⟨N, hN⟩ : ∃ N : Bool → Heap, N = fun led => s.heap.push { cls := .type "set", dict := none, data := .set #[] 0 (.fresh 0 0 led) } := ⟨_, rfl⟩
  obtain ⟨c, tl, mro⟩ := PySem.F.called_set.mro
  have f1 := PySem.F.called_set.made
  have f2 := PySem.F.called_set.sub
  have f3 := PySem.F.called_set.notType
  have f4 := PySem.F.called_set.canCreate
  have f5 := PySem.F.typeCall_set_1 (.ref l)
  refine wpAny_call (codeAny_of_tree ?_)
  show wpAny _ _ (callAny (.type "set") _) _ _ _
  refine wpAny_pure ⟨Code.quiet_builtin _ (by decide +kernel), codeAny_builtin PySem.F.entry_type_call ?_⟩
  rw [Around.under_plain (weight_type_call_type "set" [.ref l] []) rfl]
  repeat (any_goals (first | assumption | wp_step))
  refine codeAny_mono (code_set_new_1 (.ref l) (E := E) (Q₁ := fun u s1 => ∃ led : Bool, u = .ref s.heap.objs.size ∧ s1 = { s with heap := s.heap.push { cls := .type "set", dict := none, data := .set #[] 0 (.fresh 0 0 led) } }) fun led => ⟨led, rfl, rfl⟩) fun r s1 hr => ?_
  rcases r with e | (_ | _ | _ | u)
  · exact hr
  · exact hr.elim
  · exact hr.elim
  · exact hr.elim
  obtain ⟨led, rfl, rfl⟩ := hr
  have at0 : (s.heap.push { cls := .type "set", dict := none, data := .set #[] 0 (.fresh 0 0 led) }).get? s.heap.objs.size = some { cls := .type "set", dict := none, data := .set #[] 0 (.fresh 0 0 led) } := Heap.get?_push_size _ rfl
  have ty0 : Shared.TypeIs { s with heap := s.heap.push { cls := .type "set", dict := none, data := .set #[] 0 (.fresh 0 0 led) } } (.ref s.heap.objs.size) "set" := ⟨_, at0, rfl⟩
  have g1 := PySem.F.called_set.init.lookup
  have g2 := PySem.F.called_set.init.bind (.ref s.heap.objs.size)
  repeat (any_goals (first | assumption | wp_step))
  refine codeAny_mono (codeAny_call_builtin (R := wants (fun r s2 => r = .none ∧ ∃ h' tk, s2 = { s with heap := h', toks := tk } ∧ h'.SetOf (PySem.strKind P w) s.heap.objs.size (metS xs vs.size) (cntS xs vs.size) ∧
    (∀ b o, b < s.heap.objs.size → s.heap.get? b = some o → h'.get? b = some o)) E) PySem.F.called_set.init.plain PySem.F.entry_set_init (check_set_init_1 ty0 ?_)) fun r2 s2 hr2 => ?_
  · obtain ⟨⟨lc, ld, lda, lsl⟩, el, ec, ln, ed⟩ := hl
    simp only at ec ed
    subst ec
    subst ed
    have hlt : l < s.heap.objs.size := Heap.lt_size el
    have el2 : (s.heap.push { cls := .type "set", dict := none, data := .set #[] 0 (.fresh 0 0 led) }).get? l = some { cls := .type "list", dict := ld, data := .seq vs ln, slots := lsl } := Heap.get?_push_of_some _ el
    have hl1 : (s.heap.push { cls := .type "set", dict := none, data := .set #[] 0 (.fresh 0 0 led) }).IsList l vs := ⟨_, el2, rfl, ln, rfl⟩
    have k1 := PySem.F.sub_list_set
    have k2 := PySem.F.sub_list_frozenset
    have k3 : (Value.type "list" == Value.type "dict") = false := by decide
    unfold Builtin.«set.__init__» noKeywords Builtin.Frozenset.updateFrom
    generalize hPI : pyIter = PI
    wp_walk
    subst hPI
    refine wpAny_pyIter_list hl1 (wpAny_bind (wpAny_runValue ?_))
    have hh3 : A.in1.in1.in1.handled = none := by simp [hd]
    have n1 : l ≠ (s.heap.push { cls := .type "set", dict := none, data := .set #[] 0 (.fresh 0 0 led) }).objs.size := by
      rw [Heap.size_push]; exact Nat.ne_of_lt (Nat.lt_succ_of_lt hlt)
    have n2 : s.heap.objs.size ∉ [(s.heap.push { cls := .type "set", dict := none, data := .set #[] 0 (.fresh 0 0 led) }).objs.size, l] := by
      rw [Heap.size_push]
      simp only [List.mem_cons, List.not_mem_nil, or_false, not_or]
      exact ⟨Nat.ne_of_lt (Nat.lt_succ_self _), Nat.ne_of_gt hlt⟩
    have hsz : xs.length = vs.size := by rw [← StrsAre.len_eq hx, Array.length_toList]
    refine loopS ((Walks.list hh3 _ l n1 vs).toS) s.heap.objs.size n2 xs hsz (by rw [← hsz]; exact hz) (fun i v hv => SS.strs_at hx i v (by rw [Array.getElem?_toList]; exact hv)) (vs.size - 0) 0 _ (by omega) (Nat.zero_le _) ⟨⟨_, Heap.get?_push_size _ rfl, rfl, rfl⟩, (hl1.push _)⟩ ?_ fun s' mv hS => ?_
    · exact SetOf_congr ((setObjOf_fresh (knd := PySem.strKind P w) led).setOf (Heap.get?_push_of_some _ at0) (by unfold scanBound; omega)) (fun _ => rfl) rfl
    · obtain ⟨h', g', d', tk', os'⟩ := s'
      have e1 : g' = s.gens := mv.gens
      have e2 : d' = s.drawn := mv.drawn
      have e3 : os' = s.os := mv.os
      subst e1
      subst e2
      subst e3
      show wpAny _ _ _ _ _ _
      refine wpAny_pure ?_
      show wpAny _ _ (ret Value.none) _ _ _
      refine wpAny_pure ⟨rfl, h', tk', rfl, hS, fun b o hb e => mv.heap b o ?_ (Heap.get?_push_of_some _ (Heap.get?_push_of_some _ e))⟩
      rw [Heap.size_push]
      simp only [List.mem_cons, List.not_mem_nil, or_false, not_or]
      exact ⟨Nat.ne_of_lt hb, Nat.ne_of_lt (Nat.lt_succ_of_lt hb)⟩
  · rcases r2 with e | (_ | _ | _ | u)
    · exact hr2
    · exact hr2.elim
    · exact hr2.elim
    · exact hr2.elim
    obtain ⟨rfl, h', tk, rfl, hS, hk⟩ := hr2
    repeat (any_goals (first | assumption | wp_step))
    exact q _ _ hS hk
end
/-- len(set(a list of texts)) -/
def gLenSet : GC := fun S ds => match ds with
  | [d] => match vw S d with
    | .lst l => match strsD l with
      | some ys => if ys.length ≤ 4000 then some (.int (cntS ys ys.length : Int)) else none
      | none => none
    | _ => none
  | _ => none
theorem pel_lenSet {X : Cx} {a : Expr} {t : LA} {p p2 q pos : Pos} (hc : X.calm = true) (hg : Gl X "len") (hm : X.mg "len" = none) (hg2 : Gl X "set") (hm2 : X.mg "set" = none) (ha : PAL X [a] t)
    (na : starEach [a] X.env = (false, eval a X.env) :: starEach [] X.env := by rfl) : PEL X (.Call (.Name "len" p) [.Call (.Name "set" p2) [a] [] q] [] pos) (lCallB gLenSet t) := by
  refine ⟨fun pins s σ H m ρ S I x r hp => ?_⟩
  refine Call_ (ld_blt I hg hm boot_len ?_)
  refine PyProof.Rows.callWith_builtin1 (PyProof.Rows.args_cons ?_ rfl) rfl rfl
  refine Call_ (ld_blt I hg2 hm2 boot_set ?_)
  refine PyProof.Rows.callWith_type1 (run_seqA ha I x r hp fun ds S1 q1 vs us s1 H1 m1 I1 rv e1 x1 w1 r1 hp1 => ?_) na rfl
  obtain ⟨d, q2⟩ := lift_ok hp1
  have e0 : lCallB gLenSet t ρ S = .ok d S1 := by unfold lCallB; rw [q1, bind_ok, q2]; rfl
  rw [e0]
  unfold gLenSet at q2
  split at q2
  · split at q2
    · rename_i l hl
      split at q2
      · rename_i ys hs
        split at q2
        · rename_i hz
          cases q2
          obtain ⟨v, rfl, w⟩ := w1.one
          have he := strsD_eq hs
          subst he
          obtain ⟨b, ws, rfl, h1, r2⟩ := vw_lst x1 w hl
          have hv := vrs_strs r2
          subst hv
          rw [Vals.ref1 rv]
          obtain ⟨its, rv2, pl, hz2⟩ := I1.list h1
          have hlen : its.toArray.size = ys.length := by rw [List.size_toArray, ← rv2.length, List.length_map]
          refine set_texts (I1.ok.hd hc) pl.isList (by simpa using strs_of_vals rv2) hz fun h' tk hS hk => ?_
          refine PyProof.Rows.args_nil ?_
          rw [hlen] at hS
          obtain ⟨o, es, ep, t', ho, hex, hd, _, _, hb, hf, hn⟩ := hS
          have I2 : Inv X pins σ H1 { s1 with heap := h', toks := tk } := I1.kept fun b o e => hk b o (Heap.lt_size e) e
          exact call_len_set ho hex hd hf (by unfold scanBound at hb; omega) ((vpr_of ⟨.int (cntS ys ys.length : Int), H1, m1, I2.tok _, ⟨_, by rw [hn]⟩, Ext.refl, x1, .int _⟩).left e1)
        · cases q2
      · cases q2
    · cases q2
  · cases q2
end MP

/-! x[::-1], x[a:b] * k, a, b, c = .., isinstance(e, (C, ..)) of an exception -/
namespace MP
open PySem PySem.Spec PyProof.Rows L2
theorem VRs.reverse {K : PySem.W.Frag} {m : List Addr} {H : Hp} : ∀ {vs : List V} {ds : List D}, VRs K m H vs ds → VRs K m H vs.reverse ds.reverse
  | _, _, .nil => .nil
  | _, _, .cons h r => by
    rw [List.reverse_cons, List.reverse_cons]
    exact r.reverse.append (.cons h .nil)
theorem VRs.rep {K : PySem.W.Frag} {m : List Addr} {H : Hp} {vs : List V} {ds : List D} (r : VRs K m H vs ds) : ∀ n : Nat, VRs K m H (List.replicate n vs).flatten (List.replicate n ds).flatten
  | 0 => .nil
  | n + 1 => by
    rw [List.replicate_succ, List.replicate_succ, List.flatten_cons, List.flatten_cons]
    exact r.append (r.rep n)
/-- a text backwards, as the model says it -/
def revS (z : Str) : Str := ⟨((Builtin.Str.strSliceIndices none none (-1) z.length).filterMap (z.cps[·]?)).toArray⟩
def gRev (S : Sto) (d : D) : Option D := match vw S d with
  | .lst xs => some (.lst xs.reverse)
  | .str z => if (revS z).length ≤ sizeLine then some (.str (revS z)) else none
  | _ => none
section
variable {X : Cx} {e b : Expr} {le lb : LE} {k : Nat} {p1 p2 p3 pos : Pos}
theorem pel_rev (he : PEL X e le) : PEL X (.Subscript e (.Slice none none (some (.UnaryOp .USub (.Constant (.int 1) k p1) p2)) p3) pos) (lUn gRev le) := by
  refine ⟨fun pins s σ H m ρ S I x r hp => ?_⟩
  refine Subscript_ (run_seq he I x r hp fun d S1 q1 v u s1 H1 m1 I1 rv e1 x1 w1 r1 hp1 => ?_)
  obtain ⟨d', q2⟩ := lift_ok hp1
  have e0 : lUn gRev le ρ S = .ok d' S1 := by unfold lUn; rw [q1, bind_ok, q2]; rfl
  rw [e0]
  have hst : PO X (some (.UnaryOp .USub (.Constant (.int 1) k p1) p2)) (tPart (tUn (rU fun i => .int (-i)) (tC (.int 1)))) := po_some (pe_un un_neg pe_int)
  refine wpAny_Slice (thn (po_none.run pins s1 σ H1 (fun o H2 => o = none ∧ H2 = H1) I1 ⟨rfl, rfl⟩) fun vl s2 ⟨l, H2, I2, pl, el, e2⟩ => ?_)
  subst el e2
  refine thn (po_none.run pins s2 σ H2 (fun o H3 => o = none ∧ H3 = H2) I2 ⟨rfl, rfl⟩) fun vu s3 ⟨u2, H3, I3, pu, eu, e3⟩ => ?_
  subst eu e3
  refine thn (hst.run pins s3 σ H3 (fun o H4 => o = some (-1) ∧ H4 = H3) I3 ⟨1, rfl, -1, rfl, rfl, rfl⟩) fun vs s4 ⟨o, H4, I4, ps, eo, e4⟩ => ?_
  subst eo e4
  have I5 : Inv X pins σ H4 { s4 with heap := s4.heap.push { cls := .type "slice", data := .fields #[vl, vu, vs] } } := I4.kept (t' := s4.toks) fun b ob q => Heap.get?_push_of_some _ q
  show wpAny (model X.prog X.w) X.A (subscriptTail e (.Slice none none (some (.UnaryOp .USub (.Constant (.int 1) k p1) p2)) p3) u (.ref s4.heap.objs.size)) _ X.xe { s4 with heap := s4.heap.push { cls := .type "slice", data := .fields #[vl, vu, vs] } }
  unfold gRev at q2
  split at q2
  · rename_i xs hv
    cases q2
    obtain ⟨a, ws, rfl, hx, rr⟩ := vw_lst x1 w1 hv
    obtain rfl : u = Value.ref a := rv
    obtain ⟨its, r', ht, hz⟩ := I5.list hx
    have hlen := r'.length
    refine tail_any (ops := [.ref a, .ref s4.heap.objs.size]) ht.isList.typeIs (PySem.slot_list_getitem.lookup) ?_ (by with_unfolding_all rfl)
    refine wpAny_getItem_list_slice ht.isList (Heap.IsSliceOf.new _ vl vu vs) pl pu ps (by decide) ?_ (by rw [List.size_toArray]; omega)
    rw [PySem.W.krv_pick]
    have hf : H4 (s4.heap.objs.size + 1) = none := by
      have := I5.hok.fresh (Nat.le_refl (s4.heap.push { cls := .type "slice", data := .fields #[vl, vu, vs] }).objs.size)
      rw [Heap.size_push] at this
      exact this
    have hf2 : H4 (s4.heap.push { cls := .type "slice", data := .fields #[vl, vu, vs] }).objs.size = none := I5.hok.fresh (Nat.le_refl _)
    exact (vpr_of ⟨.ref _, upd H4 _ (.lst ws.reverse), m1, I5.laid (t' := s4.toks) (o := .lst ws.reverse) (fun b ob q => Heap.get?_push_of_some _ q) (Nat.le_refl _) ⟨by rw [List.length_reverse]; exact hz, _, 0, r'.reverse, Heap.get?_push_size _ rfl⟩, rfl, Ext.fresh hf2, x1.fresh hf2, vr_newLst x1 hf2 rr.reverse⟩).left e1
  · rename_i z hv
    split at q2
    · rename_i hz
      cases q2
      have ez := vw_str w1 hv
      subst ez
      obtain ⟨t, rfl⟩ := rv
      obtain ⟨os, hos, hcs, hds⟩ := Heap.IsSliceOf.new s4.heap vl vu vs
      obtain ⟨l', rfl, hl'⟩ := IsPart.raw pl
      obtain ⟨u', rfl, hu'⟩ := IsPart.raw pu
      obtain ⟨st', rfl, hst'⟩ := IsPart.raw ps
      refine tail_any (ops := [.str z t, .ref s4.heap.objs.size]) (typeIs_str _ _ _) (F.slot_str_getitem.lookup) ?_ (by with_unfolding_all rfl)
      refine wpAny_getItem_str_slice (l := l') (u := u') (st := st') ⟨os, hos, hcs, hds⟩ (by rw [hst']; rfl) ?_
      unfold sliceMade slicePicked
      rw [hl', hu', hst']
      show Made.post (if ((-1 : Int) == 1 && (Builtin.Str.strSliceIndices none none (-1) z.length).length == z.length) = true then Made.val (.str z t) else Made.str (revS z)) _ _
      rw [show ((-1 : Int) == 1) = false from rfl, Bool.false_and, if_neg Bool.false_ne_true]
      exact ⟨hz, (vpr_of ⟨.str _, H4, m1, I5.tok _, ⟨_, rfl⟩, Ext.refl, x1, .str _⟩).left e1⟩
    · cases q2
  · cases q2
/-! ### a, b, c = .. -/
def lPar3 (i j l : Nat) (t : LA) : LS := fun ρ S => liftX ρ (t ρ S) fun ds S1 => match ds with
  | [a, b, c] => .ok (.nx (((ρ.set i (some a)).set j (some b)).set l (some c))) S1
  | _ => .bad
theorem psl_par3 {i j l : Nat} {x y z : Str} {a b c : Expr} {t : LA} {px py pz pt pos : Pos} {kt k2 pt2} (hc : X.calm = true) (hN : X.N.Nodup) (ha : PAL X [a, b, c] t) (hi : X.N[i]? = some x := by rfl) (hj : X.N[j]? = some y := by rfl) (hl : X.N[l]? = some z := by rfl)
    (hij : i ≠ j := by decide) (hil : i ≠ l := by decide) (hjl : j ≠ l := by decide)
    (hx : X.env.scope.names.lookup x = some .local := by rfl) (hy : X.env.scope.names.lookup y = some .local := by rfl) (hz : X.env.scope.names.lookup z = some .local := by rfl)
    (hw : swappedStores [.Tuple [.Name x px, .Name y py, .Name z pz] kt pt] (.Tuple [a, b, c] k2 pt2) X.env = pure (some [x, y, z]) := by rfl)
    (hs : swapsWithSole [.Tuple [.Name x px, .Name y py, .Name z pz] kt pt] (.Tuple [a, b, c] k2 pt2) pos.line X.env = pure false := by rfl) :
    PSL X (.Assign [.Tuple [.Name x px, .Name y py, .Name z pz] kt pt] (.Tuple [a, b, c] k2 pt2) pos) (lPar3 i j l t) := by
  refine ps_imp (ps_par3 hc hN hi hj hl hij hil hjl hx hy hz ha.pa hw hs) fun D σ H ⟨m, ρ, S, x0, er, hl, h⟩ => ?_
  have h' : HS X D m H (liftX ρ (t ρ S) fun ds S1 => match ds with
    | [a, b, c] => .ok (.nx (((ρ.set i (some a)).set j (some b)).set l (some c))) S1
    | _ => .bad) := h
  refine ⟨m, ρ, S, x0, er, HS.hope h' er hl x0, fun ds S1 q vs H1 m1 e1 x1 w => ?_⟩
  rw [q] at h'
  have h2 := HS.ext h' e1
  have bad : ∀ {r : R Fl}, r = .bad → HS X D m1 H1 r → False := fun e z => by
    subst e
    obtain ⟨fl, S', q⟩ := z.ok
    cases q
  match ds, w with
  | [], _ => exact (bad rfl h2).elim
  | [_], _ => exact (bad rfl h2).elim
  | [_, _], _ => exact (bad rfl h2).elim
  | _ :: _ :: _ :: _ :: _, _ => exact (bad rfl h2).elim
  | [d1, d2, d3], .cons w1 (.cons w2 (.cons w3 .nil)) =>
    have er1 := er.ext e1 x0.muts
    exact ⟨_, _, _, rfl, h2.nx _ S1 rfl _ H1 (sv_same x1 (((er1.set w1).set w2).set w3) (by simp [hl]))⟩
/-! ### isinstance of an exception and a tuple of classes -/
open Classical in
noncomputable def tabT (K : PySem.W.Frag) (cs : List Value) : Addr → Option Bool := fun D => if ExcC K D then PySem.W.kitAny K (.ref D) cs else none
structure IsTOk (K : PySem.W.Frag) (cs : List Value) (tab : Addr → Option Bool) : Prop where
  one : ∀ C b, tab C = some b → PySem.W.kitAny K (.ref C) cs = some b ∧ ExcC K C
theorem tabT_ok (K : PySem.W.Frag) (cs : List Value) : IsTOk K cs (tabT K cs) := ⟨fun C b h => by
  unfold tabT at h
  split at h
  · exact ⟨h, ‹_›⟩
  · cases h⟩
def refsV (Cs : List Addr) : List V := Cs.map V.ref
def refsU (Cs : List Addr) : List Value := Cs.map Value.ref
theorem vals_refsV : ∀ {Cs : List Addr} {us : List Value}, Vals (refsV Cs) us → us = refsU Cs
  | [], _, .nil => rfl
  | C :: Cs, _, .cons h r => by
    obtain rfl : _ = Value.ref C := h
    rw [vals_refsV r]
    rfl
theorem pel_isT {tab : Addr → Option Bool} {l : LE} {es : List Expr} {tx : Nat} {ta : TA} {p pt : Pos} {Cs : List Addr} (hg : Gl X "isinstance") (hm : X.mg "isinstance" = none) (he : PEL X e l) (hc : PA X es ta)
    (hta : ∀ σ H (Q : List V → Hp → Prop), Q (refsV Cs) H → ta σ H Q) (hz : Cs.length ≤ 1000) (ok : IsTOk X.K (refsU Cs) tab)
    (hs : starEach [e, .Tuple es tx pt] X.env = (false, eval e X.env) :: starEach [.Tuple es tx pt] X.env := by rfl) (hs2 : starEach [.Tuple es tx pt] X.env = (false, eval (.Tuple es tx pt) X.env) :: starEach [] X.env := by rfl)
    (hpl : (backTo pos (starEach [.Tuple es tx pt] X.env)).any (·.1) = false := by rfl) : PEL X (.Call (.Name "isinstance" p) [e, .Tuple es tx pt] [] pos) (lIsE tab l) := by
  refine ⟨fun pins s σ H m ρ S I x r hp => ?_⟩
  refine wpAny_Call_Name_kw (ld_blt I hg hm (u := .builtin "isinstance") (by decide +kernel) ?_ (by decide) (by decide))
  refine PyProof.Rows.callWith_builtin1 ?_ hs hpl
  rw [hs]
  show wpAny _ _ (spliced ((false, eval e X.env) :: backTo pos (starEach [.Tuple es tx pt] X.env))) _ _ s
  refine Calls.spliced_cons (run_seq he I x r hp fun d S1 q1 v u s1 H1 m1 I1 rv e1 x1 w1 r1 hp1 => ?_)
  rw [hs2]
  show wpAny _ _ (spliced ((false, eval (.Tuple es tx pt) X.env) :: backTo pos (starEach [] X.env))) _ _ s1
  have hT := (pe_tup (pos := pt) (x1 := tx) hc).run pins s1 σ H1 (fun v' H' => ∃ T, H1 T = none ∧ v' = .ref T ∧ H' = upd H1 T (.tup (refsV Cs))) I1 (hta σ H1 _ ⟨by unfold refsV; rw [List.length_map, sizeLine_eq]; omega, fun T hn => ⟨T, hn, rfl, rfl⟩⟩)
  refine Calls.spliced_cons (thn hT fun u2 s2 ⟨v2, H2, I2, rv2, T, hn, ev, eH⟩ => ?_)
  subst ev
  subst eH
  refine Calls.spliced_nil ?_
  obtain ⟨d', q2⟩ := lift_ok hp1
  have e0 : lIsE tab l ρ S = .ok d' S1 := by unfold lIsE; rw [q1, bind_ok, q2]; rfl
  rw [e0]
  unfold gIsE at q2
  split at q2
  · rename_i C gs q3
    cases qb : tab C with
    | none => rw [qb] at q2; cases q2
    | some b =>
      rw [qb] at q2
      cases q2
      obtain ⟨qb, hE⟩ := ok.one C b qb
      have w2 := w1.fresh x1 hn (o := .tup (refsV Cs))
      obtain ⟨a, ox, od, rfl, J, _⟩ := exn_inst I2 (vw_exn w2 (by first | exact q3 | (exact q3)))
      obtain rfl : u = Value.ref a := rv
      obtain rfl : u2 = Value.ref T := rv2
      obtain ⟨its, ri, ⟨⟨tc, td, tda, tsl⟩, ho, hc1, n, hd⟩, hz2⟩ := I2.tuple (SqT.of (show upd H1 T (.tup (refsV Cs)) T = some (.tup (refsV Cs)) from upd_same))
      simp only at hc1 hd
      subst hc1
      subst hd
      have ei := vals_refsV ri
      subst ei
      exact PySem.W.kia_tup (PySem.W.kitx_excD hE.hg hE.hk hE.hs hE.hd hE.ha hE.hn hE.ht hE.hm) I2.kIn J ho qb (fun z => nomatch z) fun tk => ⟨_, S1, rfl, .bl b, _, m1, I2.tok tk, rfl, e1.trans (Ext.fresh hn), x1.fresh hn, .bl b⟩
  · cases q2
theorem ist_ok {K : PySem.W.Frag} {cs : List Value} {D : Addr} {b : Bool} {l : LE} {ρ : Ev} {S S1 : Sto} {fs : List (Str × MP.D)} (E : ExcC K D) (h : PySem.W.kitAny K (.ref D) cs = some b) (hl : l ρ S = .ok (.exn D fs) S1) : lIsE (tabT K cs) l ρ S = .ok (.bl b) S1 := by
  unfold lIsE
  rw [hl, bind_ok]
  show lift1 ((tabT K cs D).map .bl) S1 = _
  unfold tabT
  rw [if_pos E, h]; rfl
end
end MP

/-! a list's slice times a number -/
namespace MP
open PySem PySem.Spec PyProof.Rows L2
def lSlMul (la : LE) (lo hi : LO) (lb : LE) : LE := fun ρ S => (la ρ S).bind fun d S1 => (lo ρ S1).bind fun i S2 => (hi ρ S2).bind fun j S3 => match vw S3 d with
  | .lst xs => (lb ρ S3).bind fun y S4 => match y with
    | .int k => if 0 ≤ k ∧ k ≤ 1000 ∧ (cutD xs i j).length * k.toNat ≤ sizeLine then .ok (.lst (List.replicate k.toNat (cutD xs i j)).flatten) S4 else .bad
    | _ => .bad
  | _ => .bad
section
variable {X : Cx} {e b : Expr} {l lb : LE} {pos pos2 : Pos}
theorem pel_sliceMul {lo hi : Option Expr} {l1 l2 : LO} {p2 : Pos} (he : PEL X e l) (hl : POL X lo l1) (hu : POL X hi l2) (hb : PEL X b lb) : PEL X (.BinOp (.Subscript e (.Slice lo hi none p2) pos) .Mult b pos2) (lSlMul l l1 l2 lb) := by
  refine ⟨fun pins s σ H m ρ S I x r hp => ?_⟩
  refine wpAny_BinOp (Subscript_ (run_seq he I x r hp fun dx S1 q1 v u s1 H1 m1 I1 rv e1 x1 w1 r1 hp1 => ?_))
  refine wpAny_Slice (thn (hl.run pins s1 σ H1 m1 ρ S1 I1 x1 r1 (hope_seq hp1)) fun vl s2 ⟨i, S2, H2, m2, q2, I2, pl, e2, x2⟩ => ?_)
  rw [q2, bind_ok] at hp1
  have r2 := r1.ext e2 x1.muts
  have hp2 := Hope.ext hp1 e2
  refine thn (hu.run pins s2 σ H2 m2 ρ S2 I2 x2 r2 (hope_seq hp2)) fun vu s3 ⟨j, S3, H3, m3, q3, I3, pu, e3, x3⟩ => ?_
  rw [q3, bind_ok] at hp2
  have hp3 := Hope.ext hp2 e3
  have r3 := r2.ext e3 x2.muts
  rw [evalPart_none]
  refine wpAny_pure ?_
  have I4 : Inv X pins σ H3 { s3 with heap := s3.heap.push { cls := .type "slice", data := .fields #[vl, vu, .none] } } := I3.kept (t' := s3.toks) fun b ob q => Heap.get?_push_of_some _ q
  have w3 := (w1.ext e2 x1.muts).ext e3 x2.muts
  show wpAny (model X.prog X.w) X.A (subscriptTail e (.Slice lo hi none p2) u (.ref s3.heap.objs.size)) _ X.xe { s3 with heap := s3.heap.push { cls := .type "slice", data := .fields #[vl, vu, .none] } }
  cases hv : vw S3 dx with
  | lst xs =>
    rw [hv] at hp3
    obtain ⟨a, vs, rfl, hx, rr⟩ := vw_lst x3 w3 hv
    obtain ⟨T, id, hT, ht, hg⟩ := sl_list pins { s3 with heap := s3.heap.push { cls := .type "slice", data := .fields #[vl, vu, .none] } } σ H3 (.ref a) u vl vu i j s3.heap.objs.size (fun v' H' => ∃ p, H3 p = none ∧ v' = .ref p ∧ H' = upd H3 p (.lst (cutV vs i j))) I4 rv (Heap.IsSliceOf.new ..) pl pu
      ⟨a, vs, rfl, hx, fun p hn => ⟨p, hn, rfl, rfl⟩⟩
    refine tail_any (ops := [.ref s3.heap.objs.size, u]) ht hT (thn hg fun u' s4 ⟨v', H4, I4', rv', p, hn, ev, eH⟩ => ?_) (by with_unfolding_all rfl)
    subst ev
    subst eH
    have e4 : Ext m3 H3 m3 (upd H3 p (.lst (cutV vs i j))) := Ext.fresh hn
    have x4 := x3.fresh hn (o := .lst (cutV vs i j))
    have hp4 := Hope.ext hp3 e4
    refine run_seq hb I4' x4 (r3.ext e4 x3.muts) hp4 fun y S5 q5 v5 u5 s5 H5 m5 I5 rv5 e5 x5 w5 r5 hp5 => ?_
    cases w5 with
    | int k =>
      have hz := hope_if hp5
      have e0 : lSlMul l l1 l2 lb ρ S = .ok (.lst (List.replicate k.toNat (cutD xs i j)).flatten) S5 := by
        unfold lSlMul
        rw [q1, bind_ok, q2, bind_ok, q3, bind_ok, hv]
        dsimp only
        rw [q5, bind_ok]
        exact if_pos hz
      rw [e0]
      have np : p ∉ m3 := x3.nin hn
      have hp6 : H5 p = some (.lst (cutV vs i j)) := e5.keep p _ np upd_same
      have rc := (rr.cut i j).ext (e4.trans e5) x3.muts
      have hlen : (cutV vs i j).length = (cutD xs i j).length := rc.length
      refine thn (op_rep pins s5 σ H5 (.ref p) (.int k) u' u5 (fun v' H' => ∃ p2, H5 p2 = none ∧ v' = .ref p2 ∧ H' = upd H5 p2 (.lst (List.replicate k.toNat (cutV vs i j)).flatten)) I5 rv' rv5 ⟨p, k, _, rfl, rfl, hp6, by omega, by omega, by rw [hlen]; exact hz.2.2, fun p2 hn2 => ⟨p2, hn2, rfl, rfl⟩⟩) fun u7 s7 ⟨v7, H7, I7, rv7, p2, hn2, ev7, eH7⟩ => ?_
      subst ev7
      subst eH7
      exact (vpr_of ⟨.ref p2, _, m5, I7, rv7, Ext.fresh hn2, x5.fresh hn2, vr_newLst x5 hn2 (rc.rep k.toNat)⟩).left ((((e1.trans e2).trans e3).trans e4).trans e5)
    | _ => exact absurd rfl hp5.1
  | _ => rw [hv] at hp3; exact absurd rfl hp3.1
end
end MP

/-! small things -/
namespace MP
open PySem PySem.Spec PyProof.Rows L2
def lBad : LS := fun _ _ => .bad
/-- a statement that is never reached -/
theorem psl_bad {X : Cx} {st : Stmt} : PSL X st lBad := ⟨fun pins s σ H D I ⟨m, ρ, S, x, er, hl, h⟩ => by
  obtain ⟨fl, S', q⟩ := h.ok
  cases q⟩
def tabStr : Tab
  | .str => some true
  | _ => none
theorem isi_str {K : PySem.W.Frag} : IsiOk K (.type "str") tabStr := ⟨fun t b h => by
  cases t with
  | str => cases h; exact ⟨kit_ty (by decide +kernel), fun C z => nomatch z⟩
  | _ => cases h⟩
def tabTup : Tab
  | .tup => some true
  | _ => none
theorem isi_tuple {K : PySem.W.Frag} : IsiOk K (.type "tuple") tabTup := ⟨fun t b h => by
  cases t with
  | tup => cases h; exact ⟨kit_ty (by decide +kernel), fun C z => nomatch z⟩
  | _ => cases h⟩
/-! ### how the words compute -/
theorem add2_ii {S : Sto} {i j : Int} : gAdd2 S (.int i) (.int j) = some (.int (i + j)) := rfl
theorem add2_ss {S : Sto} {i j : Str} (h : i.length + j.length ≤ sizeLine) : gAdd2 S (.str i) (.str j) = some (.str (i ++ j)) := by
  show (((if i.length + j.length ≤ sizeLine then some (D.str (i ++ j)) else none).or (gCat S (.str i) (.str j))).or _) = _
  rw [if_pos h]; rfl
theorem catL {S : Sto} {a b : List D} {x y : D} {c : List D} (e1 : vw S x = .lst a) (e2 : vw S y = .lst b) (h : a ++ b = c) (hz : c.length ≤ 100000) (n1 : gAdd S x y = none := by rfl) : gAdd2 S x y = some (.lst c) := by
  unfold gAdd2 gCatL g2L
  rw [n1, e1, e2]
  show (if a.length + b.length ≤ sizeLine then some (D.lst (a ++ b)) else none) = _
  rw [if_pos (by rw [← List.length_append, h]; exact Nat.le_trans hz (by decide)), h]
theorem ife_tt {t : LT} {la lb : LE} {ρ : Ev} {S S1 : Sto} {r : R D} (h : t ρ S = .ok true S1) (h2 : la ρ S1 = r) : lIf t la lb ρ S = r := by
  unfold lIf; rw [h, bind_ok, if_pos rfl]; exact h2
theorem ife_ff {t : LT} {la lb : LE} {ρ : Ev} {S S1 : Sto} {r : R D} (h : t ρ S = .ok false S1) (h2 : lb ρ S1 = r) : lIf t la lb ρ S = r := by
  unfold lIf; rw [h, bind_ok, if_neg Bool.false_ne_true]; exact h2
theorem trya_ex {i : Nat} {tab : Addr → Option Bool} {lb ls : LS} {ρ ρ' ρ2 : Ev} {S S1 S2 : Sto} {C : Addr} {fs : List (Str × D)} (h : lb ρ S = .ok (.ex C fs ρ') S1) (ht : tab C = some true) (h2 : ls (ρ'.set i (some (.exn C fs))) S1 = .ok (.nx ρ2) S2) : lTryA i tab lb ls ρ S = .ok (.nx (ρ2.set i none)) S2 := by
  unfold lTryA
  rw [h, bind_ok]
  unfold catchH
  dsimp only
  rw [ht]
  dsimp only
  rw [h2, bind_ok]
  rfl
theorem trya_nx {i : Nat} {tab : Addr → Option Bool} {lb ls : LS} {ρ ρ' : Ev} {S S1 : Sto} (h : lb ρ S = .ok (.nx ρ') S1) : lTryA i tab lb ls ρ S = .ok (.nx ρ') S1 := by
  unfold lTryA
  rw [h, bind_ok]
  rfl
theorem andv_tt {la lb : LE} {ρ : Ev} {S S1 : Sto} {d : D} {r : R D} (h : la ρ S = .ok d S1) (ht : truth S1 d = some true) (h2 : lb ρ S1 = r) : lAndV la lb ρ S = r := by
  unfold lAndV; rw [h, bind_ok, ht]; exact h2
theorem andv_ff {la lb : LE} {ρ : Ev} {S S1 : Sto} {d : D} (h : la ρ S = .ok d S1) (ht : truth S1 d = some false) : lAndV la lb ρ S = .ok d S1 := by
  unfold lAndV; rw [h, bind_ok, ht]; rfl
theorem orv_tt {la lb : LE} {ρ : Ev} {S S1 : Sto} {d : D} (h : la ρ S = .ok d S1) (ht : truth S1 d = some true) : lOrV la lb ρ S = .ok d S1 := by
  unfold lOrV; rw [h, bind_ok, ht]; rfl
theorem orv_ff {la lb : LE} {ρ : Ev} {S S1 : Sto} {d : D} {r : R D} (h : la ρ S = .ok d S1) (ht : truth S1 d = some false) (h2 : lb ρ S1 = r) : lOrV la lb ρ S = r := by
  unfold lOrV; rw [h, bind_ok, ht]; exact h2
theorem asg_ok {g : GT} {l : LE} {ρ ρ1 : Ev} {S S1 : Sto} {d : D} (h : l ρ S = .ok d S1) (hg : g d ρ = some ρ1) : lAsg g l ρ S = .ok (.nx ρ1) S1 := by
  unfold lAsg; rw [h]
  show (match g d ρ with | some ρ1 => R.ok (Fl.nx ρ1) S1 | none => .bad) = _
  rw [hg]
theorem par3_ok {i j l : Nat} {t : LA} {ρ : Ev} {S S1 : Sto} {a b c : D} (h : t ρ S = .ok [a, b, c] S1) : lPar3 i j l t ρ S = .ok (.nx (((ρ.set i (some a)).set j (some b)).set l (some c))) S1 := by
  unfold lPar3; rw [h]; rfl
theorem chain_tt {g g' : G2} {la lb lc : LE} {ρ : Ev} {S S1 S2 S3 : Sto} {x y z d : D} (h1 : la ρ S = .ok x S1) (h2 : lb ρ S1 = .ok y S2) (h3 : g S2 x y = some (.bl true)) (h4 : lc ρ S2 = .ok z S3) (h5 : g' S3 y z = some d) : lChain g g' la lb lc ρ S = .ok d S3 := by
  unfold lChain; rw [h1, bind_ok, h2, bind_ok, h3]
  show ((lc ρ S2).bind fun z S4 => lift1 (g' S4 y z) S4) = _
  rw [h4, bind_ok, h5]; rfl
theorem chain_ff {g g' : G2} {la lb lc : LE} {ρ : Ev} {S S1 S2 : Sto} {x y : D} (h1 : la ρ S = .ok x S1) (h2 : lb ρ S1 = .ok y S2) (h3 : g S2 x y = some (.bl false)) : lChain g g' la lb lc ρ S = .ok (.bl false) S2 := by
  unfold lChain; rw [h1, bind_ok, h2, bind_ok, h3]; rfl
theorem slice_ok {g : Sto → D → Option Int → Option Int → Option D} {la : LE} {lo hi : LO} {ρ : Ev} {S S1 S2 S3 : Sto} {d e : D} {i j : Option Int} (h1 : la ρ S = .ok d S1) (h2 : lo ρ S1 = .ok i S2) (h3 : hi ρ S2 = .ok j S3) (h4 : g S3 d i j = some e) : lSlice g la lo hi ρ S = .ok e S3 := by
  unfold lSlice; rw [h1, bind_ok, h2, bind_ok, h3, bind_ok, h4]; rfl
theorem osome_ok {l : LE} {ρ : Ev} {S S1 : Sto} {i : Int} (h : l ρ S = .ok (.int i) S1) : oSome l ρ S = .ok (some i) S1 := by
  unfold oSome; rw [h]; rfl
theorem un_ok {g : Sto → D → Option D} {la : LE} {ρ : Ev} {S S1 : Sto} {x d : D} (h1 : la ρ S = .ok x S1) (h2 : g S1 x = some d) : lUn g la ρ S = .ok d S1 := by
  unfold lUn; rw [h1, bind_ok, h2]; rfl
theorem listN_ok {t : LA} {ρ : Ev} {S S1 : Sto} {ds ys : List D} (h : t ρ S = .ok ds S1) (h2 : gItems S1 ds = some ys) : lListN t ρ S = .ok (.ref S1.length) (S1 ++ [.lst ys]) := by
  unfold lListN; rw [h, bind_ok, h2]
theorem bms_ok {g : GM} {lo : LE} {t : LA} {ρ : Ev} {S S1 S2 S3 : Sto} {z : Str} {e : D} {ds : List D} (h1 : lo ρ S = .ok (.str z) S1) (h3 : t ρ S1 = .ok ds S2) (h4 : g S2 (.str z) ds = some (e, S3)) : lBM "str" g lo t ρ S = .ok e S3 := by
  unfold lBM; rw [h1, bind_ok, if_pos (show isTy "str" S1 (.str z) = true from rfl), h3, bind_ok, h4]; rfl
theorem zip_ok {t : LA} {ρ : Ev} {S S1 : Sto} {ds items : List D} (h : t ρ S = .ok ds S1) (h2 : zipOf ds = some items) : lZip t ρ S = .ok ⟨items, fun _ => True⟩ S1 := by
  unfold lZip; rw [h, bind_ok, h2]
/-- a comprehension with a test -/
theorem comp_skip {ρ0 ρ1 : Ev} {chk : Sto → Prop} {g : GT} {tt : LT} {te : LE} {d : D} {ds : List D} {S S1 : Sto} {r : R (List D)} (hc : chk S) (hg : g d ρ0 = some ρ1) (ht : tt ρ1 S = .ok false S1) (h2 : compG chk g tt te ρ0 ds S1 = r) : compG chk g tt te ρ0 (d :: ds) S = r := by
  unfold compG; rw [if_pos hc, hg]; show (noex (tt ρ1 S)).bind _ = _; rw [ht]; exact h2
theorem comp_take {ρ0 ρ1 : Ev} {chk : Sto → Prop} {g : GT} {tt : LT} {te : LE} {d y : D} {ds ys : List D} {S S1 S2 S3 : Sto} (hc : chk S) (hg : g d ρ0 = some ρ1) (ht : tt ρ1 S = .ok true S1) (he : te ρ1 S1 = .ok y S2) (h2 : compG chk g tt te ρ0 ds S2 = .ok ys S3) : compG chk g tt te ρ0 (d :: ds) S = .ok (y :: ys) S3 := by
  unfold compG; rw [if_pos hc, hg]; show (noex (tt ρ1 S)).bind _ = _; rw [ht]
  show (noex (te ρ1 S1)).bind _ = _
  rw [he]
  show (compG chk g tt te ρ0 ds S2).bind _ = _
  rw [h2]; rfl
/-- over any items, some kept: the store stays -/
theorem comp_filter {α : Type} {chk : Sto → Prop} {g : GT} {tt : LT} {te : LE} {ρ0 : Ev} {S : Sto} {enc f : α → D} {p : α → Bool} (hc : chk S) : ∀ xs : List α, (∀ x ∈ xs, ∃ ρ1, g (enc x) ρ0 = some ρ1 ∧ tt ρ1 S = .ok (p x) S ∧ (p x = true → te ρ1 S = .ok (f x) S)) →
    compG chk g tt te ρ0 (xs.map enc) S = .ok ((xs.filter p).map f) S
  | [], _ => comp_end hc
  | x :: xs, h => by
    obtain ⟨ρ1, h1, h2, h3⟩ := h x (by simp)
    have ih := comp_filter (f := f) hc xs fun y hy => h y (by simp [hy])
    cases q : p x with
    | true =>
      rw [q] at h2
      rw [List.filter_cons_of_pos q, List.map_cons, List.map_cons]
      exact comp_take hc h1 h2 (h3 q) ih
    | false =>
      rw [q] at h2
      rw [List.filter_cons_of_neg (by rw [q]; exact Bool.false_ne_true), List.map_cons]
      exact comp_skip hc h1 h2 ih
theorem comp_map {α : Type} {chk : Sto → Prop} {g : GT} {te : LE} {ρ0 : Ev} {S : Sto} {enc f : α → D} (hc : chk S) (xs : List α) (h : ∀ x ∈ xs, ∃ ρ1, g (enc x) ρ0 = some ρ1 ∧ te ρ1 S = .ok (f x) S) : compG chk g tYesL te ρ0 (xs.map enc) S = .ok (xs.map f) S := by
  have := comp_filter (p := fun _ => true) (tt := tYesL) (f := f) hc xs fun x hx => by
    obtain ⟨ρ1, h1, h2⟩ := h x hx
    exact ⟨ρ1, h1, rfl, fun _ => h2⟩
  rw [List.filter_eq_self.mpr (fun _ _ => rfl)] at this
  exact this
theorem bls_map {α : Type} (f : α → Bool) : ∀ xs : List α, blsOf (xs.map fun x => D.bl (f x)) = some (xs.map f)
  | [] => rfl
  | x :: xs => by simp [blsOf, bls_map f xs]
theorem all_ok {α : Type} {S : Sto} (f : α → Bool) (xs : List α) : gAll S [.lst (xs.map fun x => D.bl (f x))] = some (.bl (xs.all f)) := by
  show (blsOf (xs.map fun x => D.bl (f x))).map (fun bs => D.bl (bs.all id)) = _
  rw [bls_map]
  simp [List.all_map]
theorem any_ok {α : Type} {S : Sto} (f : α → Bool) (xs : List α) : gAny S [.lst (xs.map fun x => D.bl (f x))] = some (.bl (xs.any f)) := by
  show (blsOf (xs.map fun x => D.bl (f x))).map (fun bs => D.bl (bs.any id)) = _
  rw [bls_map]
  simp [List.any_map]
theorem comp_okL {li : LI} {ix : List Nat} {g : GT} {tt : LT} {te : LE} {ρ : Ev} {S S1 S2 : Sto} {it : Its'} {ys : List D} (h : li ρ S = .ok it S1) (hl : it.items.length ≤ 100000) (h2 : compG it.chk g tt te (wipeE ρ ix) it.items S1 = .ok ys S2) : lComp li ix g tt te ρ S = .ok (.lst ys) S2 := by
  unfold lComp compL
  rw [h, bind_ok, if_pos (Nat.le_trans hl (by decide)), h2, bind_ok]
theorem vw_ref {S : Sto} {j : Nat} {xs : List D} (h : S[j]? = some (.lst xs)) : vw S (.ref j) = .lst xs := by unfold vw; dsimp only; rw [h]
theorem set_self {S : Sto} {j : Nat} {o o' : O} (h : S[j]? = some o) : (S.set j o')[j]? = some o' := List.getElem?_set_self (List.getElem?_eq_some_iff.mp h).1
theorem sml {c : Int} (a : 0 ≤ c) (b : c < 10 ^ 100) : Sm c := Sm.of a b (by decide +kernel)
theorem lx {j : Nat} {xs : List D} {S : Sto} {k : Int} {d : D} {ρ : Ev} {i : Nat} (h : S[j]? = some (.lst xs)) (hd : atI xs k = some d) (hv : lVar i ρ S = .ok (.ref j) S) : lBin gIx (lVar i) (lC (.int k)) ρ S = .ok d S := bin_ok hv rfl (ix_ref h hd)
theorem ne_str {S : Sto} {t : Str} : gNe S (.str t) (.str t) = some (.bl false) := by rw [ne_ss, decide_eq_true rfl]; rfl
end MP

/-! sets of texts with a table that can be walked: sorted(set(texts)) (the road that HandS.Set takes for ints) -/
namespace MP
open PySem PySem.Spec PyProof.Rows L2
def keyS (e : Int × Value) : Str := match e.2 with
  | .str k _ => k
  | _ => Str.empty
def GoodS (w : World) (e : Int × Value) : Prop := ∃ k tk, e.2 = Value.str k tk ∧ e.1 = hashStr w k
/-- the members, their number; the table rises -/
structure SetS (w : World) (h : Heap) (a : Addr) (T : Str → Bool) (n : Nat) : Prop where
  ex : ∃ o es ep t, h.get? a = some o ∧ o.ExactSet ∧ o.data = .set es ep t ∧ (∀ e ∈ es.toList, GoodS w e) ∧ (es.toList.map keyS).Nodup ∧ (∀ k, T k = true ↔ k ∈ es.toList.map keyS) ∧ es.size < scanBound ∧ t.fits es.size = true ∧ es.size = n ∧ Ris t.place.toList ∧ (w.params.followText "set-order" = true ∨ t.led = true)
section
variable {P : Program} {w : World} {h h' : Heap} {a : Addr} {T : Str → Bool} {n : Nat}
theorem goodS_is {e : Int × Value} (g : GoodS w e) (k : Str) : (PySem.strKind P w).is k e.2 = true ↔ keyS e = k := by
  obtain ⟨k0, tk, h1, _⟩ := g
  unfold keyS
  rw [h1]
  constructor
  · intro q
    obtain ⟨t, ht⟩ := Value.isStrOf_shape (show Value.isStrOf k (Value.str k0 tk) = true from q)
    injection ht
  · rintro rfl
    exact strKind_is P w k0 tk
theorem goodS_elems {l : List (Int × Value)} (g : ∀ e ∈ l, GoodS w e) : ElemsOf (PySem.strKind P w) l := fun e he => by
  obtain ⟨k, tk, h1, h2⟩ := g e he
  exact ⟨⟨k, by rw [h1]; exact strKind_is P w k tk, h2⟩, by rw [h1]; rfl⟩
theorem goodS_mem {l : List (Int × Value)} (g : ∀ e ∈ l, GoodS w e) (k : Str) : k ∈ l.map keyS ↔ ∃ e ∈ l, (PySem.strKind P w).is k e.2 = true := by
  rw [List.mem_map]
  exact ⟨fun ⟨e, he, q⟩ => ⟨e, he, (goodS_is (g e he) k).2 q⟩, fun ⟨e, he, q⟩ => ⟨e, he, (goodS_is (g e he) k).1 q⟩⟩
theorem SetS.keep (R : SetS w h a T n) (k : ∀ o, h.get? a = some o → h'.get? a = some o) : SetS w h' a T n := by
  obtain ⟨o, es, ep, t, ho, r⟩ := R.ex
  exact ⟨o, es, ep, t, k o ho, r⟩
theorem SetS.congr {T' : Str → Bool} {n' : Nat} (R : SetS w h a T n) (e : ∀ k, T' k = T k) (en : n' = n) : SetS w h a T' n' := by
  have q : T' = T := funext e
  rw [q, en]; exact R
end
section
variable {P : Program} {w : World} {A : Around} {E : Value → Shared → Prop} {s : Shared} {a : Addr} {T : Str → Bool} {n : Nat}
/-- the end of an insertion: stored, and laid anew where it has grown full -/
theorem setS_tail {g : Bool → Sem Unit} (hg : ∀ (b : Bool) (s₁ : Shared) (Q' : Unit → Shared → Prop), Q' () s₁ → wpAny (model P w) A (g b) Q' E s₁)
    {o : Obj} {es : Array (Int × Value)} {ep : Nat} {t : SetTable} (ho : s.heap.get? a = some o) (hex : o.ExactSet) (hd : o.data = .set es ep t)
    {es1 : Array (Int × Value)} {t2 : SetTable} {T' : Str → Bool} (g1 : ∀ e ∈ es1.toList, GoodS w e) (nd1 : (es1.toList.map keyS).Nodup) (m1 : ∀ k, T' k = true ↔ k ∈ es1.toList.map keyS)
    (hb1 : es1.size < scanBound) (hf2 : t2.fits es1.size = true) (hr : Ris t2.place.toList) (hl : w.params.followText "set-order" = true ∨ t2.led = true) {wasDummy : Bool} {R : Option Bool → Shared → Prop}
    (hR : ∀ h', Heap.SameBut a s.heap h' → SetS w h' a T' es1.size → R (some true) { s with heap := h' }) :
    wpAny (model P w) A (do
        storeSet a es1 t2
        if (!wasDummy && t2.tooFull) = true then do
            g (relayAll t2 es1 (SetTable.grown es1.size)).2.2
            storeSet a (relayAll t2 es1 (SetTable.grown es1.size)).1 (relayAll t2 es1 (SetTable.grown es1.size)).2.1
            pure (some true)
          else pure (some true)) R E s := by
  refine wpAny_bind (wpAny_storeSet_of ho hd ?_ (fits_of_scanBound hb1))
  have ho1 := store_at (es' := es1) (t' := t2) ho hd
  have sb1 := Heap.SameBut.update s.heap a (Obj.putSet es1 t2)
  by_cases full : (!wasDummy && t2.tooFull) = true
  · rw [if_pos full]
    have pm := relayAll_perm t2 es1 (SetTable.grown es1.size)
    have f3 := relayAll_fits t2 es1 (SetTable.grown es1.size)
    have r3 := relayAll_ris t2 es1 (SetTable.grown es1.size)
    have l3 := relayAll_led t2 es1 (SetTable.grown es1.size)
    generalize relayAll t2 es1 (SetTable.grown es1.size) = Z at pm f3 r3 l3 ⊢
    obtain ⟨es2, t3, gave⟩ := Z
    dsimp only at pm f3 r3 l3 ⊢
    have z : es2.size = es1.size := by rw [← Array.length_toList, pm.length_eq, Array.length_toList]
    have hb2 : es2.size < scanBound := by rw [z]; exact hb1
    refine wpAny_bind (hg _ _ _ (wpAny_bind (wpAny_storeSet_of ho1 rfl ?_ (fits_of_scanBound hb2))))
    exact wpAny_pure (hR _ (sb1.trans (Heap.SameBut.update _ a _)) ⟨_, es2, _, t3, store_at (es' := es2) (t' := t3) ho1 rfl, hex, rfl, fun e he => g1 e (pm.mem_iff.mp he), (pm.map keyS).nodup_iff.mpr nd1, fun k => (m1 k).trans (pm.map keyS).mem_iff.symm, hb2, f3, z, r3, hl.imp id fun q => by rw [l3]; exact q⟩)
  · rw [if_neg full]
    exact wpAny_pure (hR _ sb1 ⟨_, es1, _, t2, ho1, hex, rfl, g1, nd1, m1, hb1, hf2, rfl, hr, hl⟩)
theorem setS_add {k : Str} {tk : Tok} {Q : Bool → Shared → Prop} (R : SetS w s.heap a T n) (room : n + 1 < scanBound)
    (hQ : ∀ h', Heap.SameBut a s.heap h' → SetS w h' a (fun j => T j || decide (j = k)) (if T k = true then n else n + 1) → Q (!T k) { s with heap := h' }) :
    wpAny (model P w) A (setAddHashed a (.str k tk) ((PySem.strKind P w).hash k)) Q E s := by
  obtain ⟨o, es, ep, t, ho, hex, hd, g, nd, hm, hb, hf, hn, hr, hl⟩ := R.ex
  have hkey : (PySem.strKind P w).is k (.str k tk) = true := strKind_is P w k tk
  have hsc : (Value.str k tk).scannable = true := rfl
  have hel : ElemsOf (PySem.strKind P w) es.toList := goodS_elems g
  unfold setAddHashed setAddHashedIn
  refine wpAny_holding (wpAny_bind (wpAny_setState_of ho hd hf ?_))
  dsimp only
  rw [byScan_of hsc hb hel]
  simp only [↓reduceIte]
  unfold setAddByScan
  refine wpAny_bind (wpAny_bind (wpAny_rule (wpAny_bind (wpAny_setScan_of hkey ho hd hf hel ?_))))
  cases hfi : List.findIdx? (fun e => (PySem.strKind P w).is k e.2) es.toList with
  | some j =>
    dsimp only
    obtain ⟨hj, pj, _⟩ := List.findIdx?_eq_some_iff_getElem.mp hfi
    have hT : T k = true := (hm k).2 ((goodS_mem (P := P) g k).2 ⟨_, List.getElem_mem hj, pj⟩)
    refine wpAny_pure (wpAny_pure ?_)
    have q := hQ s.heap (Heap.SameBut.refl a s.heap) ⟨o, es, ep, t, ho, hex, hd, g, nd, fun i => by
      rw [Bool.or_eq_true, decide_eq_true_eq, ← hm i]
      exact ⟨fun z => z.elim id (fun e => e ▸ hT), .inl⟩, hb, hf, by rw [if_pos hT]; exact hn, hr, hl⟩
    rw [hT] at q
    exact q
  | none =>
    dsimp only
    have hnk : k ∉ es.toList.map keyS := fun z => by
      obtain ⟨e, he, q⟩ := (goodS_mem (P := P) g k).1 z
      have c := List.findIdx?_eq_none_iff.mp hfi e he
      rw [q] at c
      cases c
    have hT : T k = false := by
      cases q : T k with
      | false => rfl
      | true => exact absurd ((hm k).1 q) hnk
    have gave_ : ∀ (b : Bool) {s₁ : Shared} {Q' : Unit → Shared → Prop}, Q' () s₁ → wpAny (model P w) A (match b with | true => rule "set.scan.the-table-gave-way" | false => pure ()) Q' E s₁ := fun b _ _ q => by
      cases b
      · exact wpAny_pure q
      · exact wpAny_rule q
    have pm := layNew_perm t es ((PySem.strKind P w).hash k) (.str k tk)
    have f1 := layNew_fits t es ((PySem.strKind P w).hash k) (.str k tk)
    have r1 := layNew_ris t es ((PySem.strKind P w).hash k) (.str k tk) hr
    have l1 := layNew_led t es ((PySem.strKind P w).hash k) (.str k tk)
    generalize layNew t es ((PySem.strKind P w).hash k) (.str k tk) = Z at pm f1 r1 l1 ⊢
    obtain ⟨es1, t1, wasDummy, gave⟩ := Z
    dsimp only at pm f1 r1 l1 ⊢
    rw [Array.toList_push] at pm
    have pc : es1.toList.Perm (((PySem.strKind P w).hash k, Value.str k tk) :: es.toList) := pm.trans (List.perm_append_singleton _ _)
    have pk : (es1.toList.map keyS).Perm (k :: es.toList.map keyS) := pc.map keyS
    have g1 : ∀ e ∈ es1.toList, GoodS w e := fun e he => by
      rcases List.mem_cons.mp (pc.mem_iff.mp he) with z | z
      · rw [z]; exact ⟨k, tk, rfl, rfl⟩
      · exact g e z
    have nd1 : (es1.toList.map keyS).Nodup := pk.nodup_iff.mpr (List.nodup_cons.mpr ⟨hnk, nd⟩)
    have m1 : ∀ i, (T i || decide (i = k)) = true ↔ i ∈ es1.toList.map keyS := fun i => by
      rw [Bool.or_eq_true, decide_eq_true_eq, hm i, pk.mem_iff, List.mem_cons]
      exact Or.comm
    have z : es1.size = n + 1 := by rw [← Array.length_toList, pc.length_eq, List.length_cons, Array.length_toList, hn]
    have hb1 : es1.size < scanBound := by rw [z]; exact room
    have hled : w.params.followText "set-order" = true ∨ t1.led = true := hl.imp id fun q => by rw [l1]; exact q
    have fin : ∀ h', Heap.SameBut a s.heap h' → SetS w h' a (fun j => T j || decide (j = k)) es1.size → Q true { s with heap := h' } := fun h' sb r => by
      have q := hQ h' sb
      rw [hT] at q
      rw [z] at r
      exact q r
    refine wpAny_bind (gave_ _ ?_)
    split
    · refine wpAny_bind ?_
      rw [hashByValue_scannable 8 hsc]
      refine wpAny_pure ?_
      refine setS_tail (fun b s₁ Q' q => ?_) ho hex hd g1 nd1 m1 hb1 ?_ ?_ ?_ fun h' sb r => ?_
      · cases b
        · exact wpAny_pure q
        · exact wpAny_rule q
      · first | (split <;> first | exact f1 | exact SetTable.fits_plain_off f1) | exact f1
      · first | (split <;> exact r1) | exact r1
      · first | (split <;> exact hled) | exact hled
      · dsimp only; exact wpAny_pure (fin h' sb r)
    · refine wpAny_bind (wpAny_pure ?_)
      simp only [↓reduceIte]
      refine setS_tail (fun b s₁ Q' q => ?_) ho hex hd g1 nd1 m1 hb1 f1 r1 hled fun h' sb r => ?_
      · cases b
        · exact wpAny_pure q
        · exact wpAny_rule q
      · dsimp only; exact wpAny_pure (fin h' sb r)
theorem setS_fresh {h : Heap} (w : World) : SetS w (h.push { cls := .type "set", dict := none, data := .set #[] 0 (.fresh 0 0 (!w.params.followText "set-order")) }) h.objs.size (fun _ => false) 0 :=
  ⟨_, #[], 0, _, Heap.get?_push_size _ rfl, ⟨rfl, rfl, rfl⟩, rfl, (fun e he => by simp at he), (by simp), (fun k => by simp), (by decide), (by rfl), rfl, List.Pairwise.nil, by
    show _ ∨ (!w.params.followText "set-order") = true
    cases w.params.followText "set-order"
    · exact .inr rfl
    · exact .inl rfl⟩
end
end MP

/-! set(texts) made of a list; sorted(set(texts)) -/
namespace MP
open PySem PySem.Spec PyProof.Rows L2
section
variable {P : Program} {w : World} {A : Around} {R : Result → Shared → Prop} {E : Value → Shared → Prop} {s : Shared}
theorem loopS2 {It : Addr} {fp wr : List Addr} {G : Array GenState → Array GenState → Prop} {n : Nat} {Pv : Nat → Value → Prop} {St : Nat → Shared → Prop} (W : WalksS P w A.in1 It fp wr G n Pv St) (a : Addr) (ha : a ∉ fp) (xs : List Str) (hn : xs.length = n) (hz : n ≤ 4000)
    (hv : ∀ i v, Pv i v → ∃ t, v = .str (xs.getD i Str.empty) t) : ∀ (k i : Nat) (s : Shared), n - i = k → i ≤ n → St i s → SetS w s.heap a (metS xs i) (cntS xs i) →
      (∀ s', Moved (a :: wr) G s s' → SetS w s'.heap a (metS xs n) (cntS xs n) → R (.ok (.ret .none)) s') →
      codeAny (model P w) A (.builtin "set.update.loop" ⟨[.ref a, .ref It], []⟩) R s := by
  have naw : a ∉ wr := fun z => ha (W.sub _ z)
  have sub : ∀ b ∈ wr, b ∈ a :: wr := fun b hb => List.mem_cons_of_mem _ hb
  intro k
  induction k with
  | zero =>
    intro i s e0 hi st hS hR
    obtain rfl : i = n := by omega
    refine codeAny_builtin PyProof.Rows.F.entry_set_update_loop ?_
    rw [Around.under_plainId PyProof.Rows.F.plain_set_update_loop _]
    show wpAny _ A.in1 (pyNext (.ref It) >>= _) _ _ s
    exact wpAny_bind (W.done s _ _ st fun s' mv => wpAny_pure (hR s' (mv.mono sub) (hS.keep (fun o e => mv.heap a _ naw e))))
  | succ k ih =>
    intro i s e0 hi st hS hR
    have lt : i < n := by omega
    refine codeAny_builtin PyProof.Rows.F.entry_set_update_loop ?_
    rw [Around.under_plainId PyProof.Rows.F.plain_set_update_loop _]
    show wpAny _ A.in1 (pyNext (.ref It) >>= _) _ _ s
    refine wpAny_bind (W.item i s _ _ lt st fun v s' pv st' mv => ?_)
    obtain ⟨t, rfl⟩ := hv i v pv
    have hS' := hS.keep (h' := s'.heap) (fun o e => mv.heap a _ naw e)
    show wpAny _ A.in1 (holding [Value.str (xs.getD i Str.empty) t] (setAdd a (.str (xs.getD i Str.empty) t)) >>= _) _ _ s'
    refine wpAny_bind (wpAny_holding ?_)
    unfold setAdd
    refine wpAny_holding (wpAny_bind ((PySem.strKind P w).pyHash (k := xs.getD i Str.empty) (strKind_is _ _ _ _) ?_))
    have hc := cntS_le xs i
    refine setS_add (s := { s' with toks := s'.toks + 1 }) hS' (by unfold scanBound; omega) fun h' hb hS2 => ?_
    have hS3 : SetS w h' a (metS xs (i + 1)) (cntS xs (i + 1)) := hS2.congr (fun k => met_succ (by omega) k) rfl
    refine wpAny_pure ⟨plainId_quiet PyProof.Rows.F.plain_set_update_loop _, ih (i + 1) _ (by omega) lt (W.frame _ s' _ _ st' (Nat.le_succ _) fun b hb' o e => ?_) hS3 fun s'' mv2 hS4 => ?_⟩
    · rw [hb.2 b fun z : b = a => ha (by rw [← z]; exact hb')]; exact e
    · refine hR s'' (Moved.trans W.gtrans ((mv.mono sub).then_heap (Nat.le_succ _) fun b o hb' e => ?_) mv2) hS4
      rw [hb.2 b fun z : b = a => hb' (by rw [z]; exact List.mem_cons_self)]; exact e
set_option maxHeartbeats 3200000 in
theorem set_texts2 {l : Addr} {vs : Array Value} {xs : List Str} {Q : Value → Shared → Prop} (hd : A.handled = none) (hl : s.heap.IsList l vs) (hx : StrsAre vs.toList xs) (hz : xs.length ≤ 4000)
    (q : ∀ (h' : Heap) (tk : Nat), SetS w h' s.heap.objs.size (metS xs vs.size) (cntS xs vs.size) → (∀ b o, b < s.heap.objs.size → s.heap.get? b = some o → h'.get? b = some o) → Q (.ref s.heap.objs.size) { s with heap := h', toks := tk }) :
    wpAny (model P w) A (call (.type "set") [.ref l]) Q E s := by
  obtain ⟨c, tl, mro⟩ := PySem.F.called_set.mro
  have f1 := PySem.F.called_set.made
  have f2 := PySem.F.called_set.sub
  have f3 := PySem.F.called_set.notType
  have f4 := PySem.F.called_set.canCreate
  have f5 := PySem.F.typeCall_set_1 (.ref l)
  refine wpAny_call (codeAny_of_tree ?_)
  show wpAny _ _ (callAny (.type "set") _) _ _ _
  refine wpAny_pure ⟨Code.quiet_builtin _ (by decide +kernel), codeAny_builtin PySem.F.entry_type_call ?_⟩
  rw [Around.under_plain (weight_type_call_type "set" [.ref l] []) rfl]
  repeat (any_goals (first | assumption | wp_step))
  refine codeAny_mono (code_set_led1 (.ref l) (E := E) (Q₁ := fun u s1 => u = .ref s.heap.objs.size ∧ s1 = { s with heap := s.heap.push { cls := .type "set", dict := none, data := .set #[] 0 (.fresh 0 0 (!w.params.followText "set-order")) } }) ⟨rfl, rfl⟩) fun r s1 hr => ?_
  rcases r with e | (_ | _ | _ | u)
  · exact hr
  · exact hr.elim
  · exact hr.elim
  · exact hr.elim
  obtain ⟨rfl, rfl⟩ := hr
  have fresh := setS_fresh (h := s.heap) w
  generalize (!w.params.followText "set-order") = led at fresh ⊢
  have at0 : (s.heap.push { cls := .type "set", dict := none, data := .set #[] 0 (.fresh 0 0 led) }).get? s.heap.objs.size = some { cls := .type "set", dict := none, data := .set #[] 0 (.fresh 0 0 led) } := Heap.get?_push_size _ rfl
  have ty0 : Shared.TypeIs { s with heap := s.heap.push { cls := .type "set", dict := none, data := .set #[] 0 (.fresh 0 0 led) } } (.ref s.heap.objs.size) "set" := ⟨_, at0, rfl⟩
  have g1 := PySem.F.called_set.init.lookup
  have g2 := PySem.F.called_set.init.bind (.ref s.heap.objs.size)
  repeat (any_goals (first | assumption | wp_step))
  refine codeAny_mono (codeAny_call_builtin (R := wants (fun r s2 => r = .none ∧ ∃ h' tk, s2 = { s with heap := h', toks := tk } ∧ SetS w h' s.heap.objs.size (metS xs vs.size) (cntS xs vs.size) ∧
    (∀ b o, b < s.heap.objs.size → s.heap.get? b = some o → h'.get? b = some o)) E) PySem.F.called_set.init.plain PySem.F.entry_set_init (check_set_init_1 ty0 ?_)) fun r2 s2 hr2 => ?_
  · obtain ⟨⟨lc, ld, lda, lsl⟩, el, ec, ln, ed⟩ := hl
    simp only at ec ed
    subst ec
    subst ed
    have hlt : l < s.heap.objs.size := Heap.lt_size el
    have el2 : (s.heap.push { cls := .type "set", dict := none, data := .set #[] 0 (.fresh 0 0 led) }).get? l = some { cls := .type "list", dict := ld, data := .seq vs ln, slots := lsl } := Heap.get?_push_of_some _ el
    have hl1 : (s.heap.push { cls := .type "set", dict := none, data := .set #[] 0 (.fresh 0 0 led) }).IsList l vs := ⟨_, el2, rfl, ln, rfl⟩
    have k1 := PySem.F.sub_list_set
    have k2 := PySem.F.sub_list_frozenset
    have k3 : (Value.type "list" == Value.type "dict") = false := by decide
    unfold Builtin.«set.__init__» noKeywords Builtin.Frozenset.updateFrom
    generalize hPI : pyIter = PI
    wp_walk
    subst hPI
    refine wpAny_pyIter_list hl1 (wpAny_bind (wpAny_runValue ?_))
    have hh3 : A.in1.in1.in1.handled = none := by simp [hd]
    have n1 : l ≠ (s.heap.push { cls := .type "set", dict := none, data := .set #[] 0 (.fresh 0 0 led) }).objs.size := by
      rw [Heap.size_push]; exact Nat.ne_of_lt (Nat.lt_succ_of_lt hlt)
    have n2 : s.heap.objs.size ∉ [(s.heap.push { cls := .type "set", dict := none, data := .set #[] 0 (.fresh 0 0 led) }).objs.size, l] := by
      rw [Heap.size_push]
      simp only [List.mem_cons, List.not_mem_nil, or_false, not_or]
      exact ⟨Nat.ne_of_lt (Nat.lt_succ_self _), Nat.ne_of_gt hlt⟩
    have hsz : xs.length = vs.size := by rw [← StrsAre.len_eq hx, Array.length_toList]
    refine loopS2 ((Walks.list hh3 _ l n1 vs).toS) s.heap.objs.size n2 xs hsz (by rw [← hsz]; exact hz) (fun i v hv => SS.strs_at hx i v (by rw [Array.getElem?_toList]; exact hv)) (vs.size - 0) 0 _ (by omega) (Nat.zero_le _) ⟨⟨_, Heap.get?_push_size _ rfl, rfl, rfl⟩, (hl1.push _)⟩ ?_ fun s' mv hS => ?_
    · exact (fresh.keep fun o e => Heap.get?_push_of_some _ e).congr (fun _ => rfl) rfl
    · obtain ⟨h', g', d', tk', os'⟩ := s'
      have e1 : g' = s.gens := mv.gens
      have e2 : d' = s.drawn := mv.drawn
      have e3 : os' = s.os := mv.os
      subst e1
      subst e2
      subst e3
      show wpAny _ _ _ _ _ _
      refine wpAny_pure ?_
      show wpAny _ _ (ret Value.none) _ _ _
      refine wpAny_pure ⟨rfl, h', tk', rfl, hS, fun b o hb e => mv.heap b o ?_ (Heap.get?_push_of_some _ (Heap.get?_push_of_some _ e))⟩
      rw [Heap.size_push]
      simp only [List.mem_cons, List.not_mem_nil, or_false, not_or]
      exact ⟨Nat.ne_of_lt hb, Nat.ne_of_lt (Nat.lt_succ_of_lt hb)⟩
  · rcases r2 with e | (_ | _ | _ | u)
    · exact hr2
    · exact hr2.elim
    · exact hr2.elim
    · exact hr2.elim
    obtain ⟨rfl, h', tk, rfl, hS, hk⟩ := hr2
    repeat (any_goals (first | assumption | wp_step))
    exact q _ _ hS hk
def keyV : Value → Str
  | .str k _ => k
  | _ => Str.empty
theorem each_strs : ∀ vs : List Value, (∀ v ∈ vs, ∃ k tk, v = Value.str k tk) → ∃ bs : List Str, bs = vs.map keyV ∧ PySem.W.EachIs (fun v b => ∃ tk, v = Value.str b tk) vs bs
  | [], _ => ⟨[], rfl, .nil⟩
  | v :: vs, h => by
    obtain ⟨bs, e, r⟩ := each_strs vs fun u hu => h u (by simp [hu])
    obtain ⟨k, tk, rfl⟩ := h v (by simp)
    exact ⟨k :: bs, by rw [e]; rfl, .cons ⟨tk, rfl⟩ r⟩
theorem strsAre_each : ∀ {vs : List Value} {bs : List Str}, PySem.W.EachIs (fun v b => ∃ tk, v = Value.str b tk) vs bs → StrsAre vs bs
  | _, _, .nil => .nil
  | _, _, .cons ⟨tk, e⟩ r => by subst e; exact .cons _ tk (strsAre_each r)
theorem srt_strsM (ys : List Str) (h : ys.length ≤ 100000) : PySem.W.AllAlike (ys.map PyData.str) ∧ PySem.W.Sortable (ys.map PyData.str) ∧ True := by
  have hk : srtOk (ys.map D.str) = true := by
    unfold srtOk
    simp only [Bool.and_eq_true, List.all_eq_true, decide_eq_true_eq, Bool.or_eq_true]
    refine ⟨⟨⟨⟨fun x hx => ?_, fun x hx y hy => ?_⟩, .inr fun x hx => ?_⟩, fun x hx => ?_⟩, by rw [List.length_map]; exact Nat.le_trans h (by decide)⟩
    all_goals obtain ⟨a, _, rfl⟩ := List.mem_map.mp hx
    · rfl
    · obtain ⟨b, _, rfl⟩ := List.mem_map.mp hy
      rfl
    · rfl
    · simp [MP.encD, toPD, PyData.depth]
  obtain ⟨h1, h2, h3, h4, h5⟩ := srtOk_inv hk
  rw [List.map_map] at h2 h3
  exact ⟨h2, h3, trivial⟩
/-- sorted(a set of texts) -/
theorem sorted_setS {a : Addr} {T : Str → Bool} {n : Nat} {Q : Value → Shared → Prop} (R : SetS w s.heap a T n) (hh : A.handled = none) (hu : A.units + 64 < cLine)
    (hQ : ∀ s' p (out : Array Value) (c : Nat) (ns : List Str), (∀ b o, s.heap.get? b = some o → s'.heap.get? b = some o) → s'.gens = s.gens → s'.os = s.os → s.heap.objs.size ≤ p →
      s'.heap.get? p = some (seqObj "list" out c) → StrsAre out.toList ns → ns.Pairwise (fun x y => decide (x.cps.toList ≤ y.cps.toList) = true) → ns.Nodup → (∀ k, k ∈ ns ↔ T k = true) → Q (.ref p) s') :
    wpAny (model P w) A (call (.builtin "sorted") [.ref a]) Q E s := by
  obtain ⟨o, es, ep, t, ho, hex, hd, g, nd, hm, hb, hf, hn, hr, hl⟩ := R.ex
  refine Calls.call_function_entry kind_sorted plain_sorted entry_sorted (args_sorted1 _) ?_
  unfold Builtin.«sorted»
  refine wpAny_bind (m := checkCount "sorted" 1 1 _) (wpAny_pure ?_)
  refine wpAny_bind (collect_set (A := A.in1) hh ⟨o, ho, hex.1, hd⟩ hf hb hr hl fun s1 vs k1 hz g1 o1 pm => ?_)
  have hg : ∀ v ∈ vs, ∃ k tk, v = Value.str k tk := fun v hv => by
    obtain ⟨e, he, q⟩ := List.mem_map.mp (pm.mem_iff.mp hv)
    obtain ⟨k, tk, h1, _⟩ := g e he
    exact ⟨k, tk, by rw [← q]; exact h1⟩
  obtain ⟨bs, hbs, E1⟩ := each_strs vs hg
  have hvl : vs.length = es.size := by rw [pm.length_eq, List.length_map, Array.length_toList]
  have hbl : bs.length = es.size := by rw [hbs, List.length_map]; exact hvl
  have pk : bs.Perm (es.toList.map keyS) := by
    rw [hbs]
    have q := pm.map keyV
    rw [List.map_map] at q
    exact q
  have hle : es.size ≤ 100000 := Nat.le_of_lt (Nat.lt_trans hb (by decide))
  refine wpAny_bind (wpAny_newList ?_ (by rw [hvl]; exact fits_of_scanBound hb))
  have hoL : (s1.heap.push (seqObj "list" vs.toArray 0)).get? s1.heap.objs.size = some (seqObj "list" vs.toArray 0) := Heap.get?_push_size _ rfl
  obtain ⟨a1, a2, a3⟩ := srt_strsM bs (by omega)
  refine wpAny_bind (wpAny_holding (PySem.W.list_sort_data (enc := PyData.str) hoL E1 (E1.mono fun v b ⟨tk, e⟩ => ⟨[], by rw [e]; exact .str b tk, by simp⟩) a1 a2 (by rw [hbl]; exact fits_of_scanBound hb) (fun b _ => ?_) fun out ho hE => ?_))
  · have : (PyData.str b).depth = 0 := rfl
    have hA : A.in1.units ≤ A.units + 1 := by simp [Around.in1]
    omega
  obtain ⟨c, hc⟩ := sortedHeap_at (vs := vs) (out := out.toArray) hoL
  rw [PySem.W.dataLe_str (fun b : Str => b)] at hE
  have pn : (bs.mergeSort fun a b => decide (a.cps.toList ≤ b.cps.toList)).Perm (es.toList.map keyS) := (List.mergeSort_perm _ _).trans pk
  refine wpAny_pure ⟨_, rfl, hQ { s1 with heap := sortedHeap (s1.heap.push (seqObj "list" vs.toArray 0)) s1.heap.objs.size vs out.toArray } s1.heap.objs.size out.toArray c _ (fun b u e => ?_) g1 o1 hz hc (strsAre_each (by simpa using hE)) (List.pairwise_mergeSort ?_ ?_ _) (pn.nodup_iff.mpr nd) fun k => by rw [pn.mem_iff, ← hm k]⟩
  · have q := k1 b u e
    have hlt := Heap.lt_size q
    show (sortedHeap (s1.heap.push (seqObj "list" vs.toArray 0)) s1.heap.objs.size vs out.toArray).get? b = some u
    rw [sortedHeap_old (Nat.ne_of_lt hlt) (by rw [size_push']; exact Nat.lt_succ_of_lt hlt)]
    exact Heap.get?_push_of_some _ q
  · exact fun a b c h1 h2 => decide_eq_true (List.le_trans (of_decide_eq_true h1) (of_decide_eq_true h2))
  · intro a b
    rw [Bool.or_eq_true]
    exact (List.le_total a.cps.toList b.cps.toList).imp decide_eq_true decide_eq_true
end
end MP

/-! sorted(set(a list of texts)) as an expression -/
namespace MP
open PySem PySem.Spec PyProof.Rows L2
def nubS : List Str → List Str
  | [] => []
  | x :: r => if x ∈ r then nubS r else x :: nubS r
theorem mem_nub {k : Str} : ∀ {ys : List Str}, k ∈ nubS ys ↔ k ∈ ys
  | [] => Iff.rfl
  | x :: r => by
    unfold nubS
    split
    · rename_i h
      rw [mem_nub (ys := r), List.mem_cons]
      exact ⟨.inr, fun z => z.elim (fun e => e ▸ h) id⟩
    · rw [List.mem_cons, List.mem_cons, mem_nub (ys := r)]
theorem nodup_nub : ∀ ys : List Str, (nubS ys).Nodup
  | [] => .nil
  | x :: r => by
    unfold nubS
    split
    · exact nodup_nub r
    · rename_i h
      exact List.nodup_cons.mpr ⟨fun z => h (mem_nub.mp z), nodup_nub r⟩
theorem len_nub : ∀ ys : List Str, (nubS ys).length ≤ ys.length
  | [] => Nat.le_refl _
  | x :: r => by
    have := len_nub r
    unfold nubS
    split
    · rw [List.length_cons]; omega
    · rw [List.length_cons, List.length_cons]; omega
def leS (a b : Str) : Bool := decide (a.cps.toList ≤ b.cps.toList)
def srtS (ys : List Str) : List Str := (nubS ys).mergeSort leS
theorem srtS_of {ns ys : List Str} (h1 : ns.Pairwise fun x y => decide (x.cps.toList ≤ y.cps.toList) = true) (h2 : ns.Nodup) (h3 : ∀ k, k ∈ ns ↔ k ∈ ys) : ns = srtS ys := by
  have hp : ns.Perm (nubS ys) := (List.perm_ext_iff_of_nodup h2 (nodup_nub ys)).mpr fun k => (h3 k).trans mem_nub.symm
  refine PySem.W.Srt.the_of_perm leS (fun a b c h1 h2 => decide_eq_true (List.le_trans (of_decide_eq_true h1) (of_decide_eq_true h2))) (fun a b => ?_) (fun a b h1 h2 => Str.ext' (Array.toList_inj.mp (List.le_antisymm (of_decide_eq_true h1) (of_decide_eq_true h2)))) hp h1
  rw [Bool.or_eq_true]
  exact (List.le_total a.cps.toList b.cps.toList).imp decide_eq_true decide_eq_true
theorem met_all {ys : List Str} {k : Str} : metS ys ys.length k = true ↔ k ∈ ys := by
  unfold metS
  rw [List.take_of_length_le (Nat.le_refl _), List.any_eq_true]
  exact ⟨fun ⟨x, hx, e⟩ => by rw [← beq_iff_eq.mp e]; exact hx, fun h => ⟨k, h, beq_iff_eq.mpr rfl⟩⟩
theorem vals_strsAre : ∀ {us : List Value} {ns : List Str}, StrsAre us ns → Vals (ns.map V.str) us
  | _, _, .nil => .nil
  | _, _, .cons y t r => .cons ⟨t, rfl⟩ (vals_strsAre r)
/-- sorted(set(a list of texts)) -/
def gSortSet : GC := fun S ds => match ds with
  | [d] => match vw S d with
    | .lst l => match strsD l with
      | some ys => if ys.length ≤ 4000 then some (.lst ((srtS ys).map D.str)) else none
      | none => none
    | _ => none
  | _ => none
theorem pel_sortSet {X : Cx} {a : Expr} {t : LA} {p p2 q pos : Pos} (hc : X.calm = true) (hu : X.A.units + 64 < cLine) (hg : Gl X "sorted") (hm : X.mg "sorted" = none) (hg2 : Gl X "set") (hm2 : X.mg "set" = none) (ha : PAL X [a] t)
    (na : starEach [a] X.env = (false, eval a X.env) :: starEach [] X.env := by rfl) : PEL X (.Call (.Name "sorted" p) [.Call (.Name "set" p2) [a] [] q] [] pos) (lCallB gSortSet t) := by
  refine ⟨fun pins s σ H m ρ S I x r hp => ?_⟩
  refine Call_ (ld_blt I hg hm (u := .builtin "sorted") (by decide +kernel) ?_)
  refine PyProof.Rows.callWith_builtin1 (PyProof.Rows.args_cons ?_ rfl) rfl rfl
  refine Call_ (ld_blt I hg2 hm2 boot_set ?_)
  refine PyProof.Rows.callWith_type1 (run_seqA ha I x r hp fun ds S1 q1 vs us s1 H1 m1 I1 rv e1 x1 w1 r1 hp1 => ?_) na rfl
  obtain ⟨d, q2⟩ := lift_ok hp1
  have e0 : lCallB gSortSet t ρ S = .ok d S1 := by unfold lCallB; rw [q1, bind_ok, q2]; rfl
  rw [e0]
  unfold gSortSet at q2
  split at q2
  · split at q2
    · rename_i l hl
      split at q2
      · rename_i ys hs
        split at q2
        · rename_i hz
          cases q2
          obtain ⟨v, rfl, w⟩ := w1.one
          have he := strsD_eq hs
          subst he
          obtain ⟨b, ws, rfl, h1, r2⟩ := vw_lst x1 w hl
          have hv := vrs_strs r2
          subst hv
          rw [Vals.ref1 rv]
          obtain ⟨its, rv2, pl, hz2⟩ := I1.list h1
          have hlen : its.toArray.size = ys.length := by rw [List.size_toArray, ← rv2.length, List.length_map]
          refine set_texts2 (I1.ok.hd hc) pl.isList (by simpa using strs_of_vals rv2) hz fun h' tk hS hk => ?_
          refine PyProof.Rows.args_nil ?_
          rw [hlen] at hS
          have I2 : Inv X pins σ H1 { s1 with heap := h', toks := tk } := I1.kept fun b o e => hk b o (Heap.lt_size e) e
          refine sorted_setS hS (I2.ok.hd hc) hu fun s' p out c ns k g o hp' hg' hout pw nd hmem => ?_
          have hns : ns = srtS ys := srtS_of pw nd fun k => (hmem k).trans met_all
          subst hns
          have hn : H1 p = none := I2.hok.fresh hp'
          have hln : ((srtS ys).map V.str).length ≤ sizeLine := by
            have := len_nub ys
            rw [List.length_map]
            unfold srtS
            rw [List.length_mergeSort]
            exact Nat.le_trans (Nat.le_trans this hz) (by decide)
          have J : Inv X pins σ (upd H1 p (.lst ((srtS ys).map V.str))) { ({ s1 with heap := h', toks := tk } : Shared) with heap := s'.heap, gens := s'.gens, drawn := s'.drawn, toks := s'.toks } :=
            I2.call (ch := []) (Un.laid k hp' hn) (I2.hok.laid k hp' ⟨hln, out.toList, c, vals_strsAre hout, hg'⟩) (by rw [g]; exact I2.bare) (fun _ z => nomatch z)
          have e : s' = { ({ s1 with heap := h', toks := tk } : Shared) with heap := s'.heap, gens := s'.gens, drawn := s'.drawn, toks := s'.toks } := by
            obtain ⟨a1, a2, a3, a4, a5⟩ := s'
            have o' : a5 = s1.os := o
            subst o'
            rfl
          rw [e]
          exact (vpr_of ⟨.ref p, upd H1 p (.lst ((srtS ys).map V.str)), m1, J, rfl, Ext.fresh hn, x1.fresh hn, vr_newLst x1 hn VRs.of_strs⟩).left e1
        · cases q2
      · cases q2
    · cases q2
  · cases q2
end MP

/-! a list, a tuple, times a number -/
namespace MP
open PySem PySem.Spec PyProof.Rows L2
theorem q_mul_int (l : Addr) (items : Array Value) (n : Nat) (d : Option Addr) (sl : Array (Option Value)) (x : Int) (u : Tok) (hc0 : ¬(!Builtin.List.listFitsIndex x) = true)
    (hc1 : ¬items.size * x.toNat > (2 ^ 63 - 1) / 8) (hc2 : ¬Builtin.List.listTooLong (items.size * x.toNat) = true) :
    Meets (Builtin.«list.__mul__» ⟨[.ref l, .int x u], []⟩) (fun _ R s => s.heap.get? l = some { cls := .type "list", dict := d, data := .seq items n, slots := sl } ∧ R (.ok (.ret (Value.ref s.heap.objs.size))) { s with heap := s.heap.push { cls := Value.type "list", data := Data.seq (List.foldl (fun x1 x2 => x1 ++ x2) #[] (List.replicate (if items.isEmpty = true then 0 else x.toNat) items)) }, toks := s.toks }) :=
  .of_wp fun prog w A R s h => by
    obtain ⟨hp, g, d, tk, os⟩ := s; obtain ⟨hl, h⟩ := h
    have hsz := AutoListH.joined_fits hc2
    wp_walk; refine wpAny_ite_false (decide_eq_false (Nat.not_lt.mpr hsz)) ?_; wp_walk; exact ⟨_, rfl, h⟩
theorem q_rmul_int (a : Int) (t : Tok) (l : Addr) (items : Array Value) (n : Nat) (d : Option Addr) (sl : Array (Option Value)) :
    Meets (Builtin.«int.__rmul__» ⟨[.int a t, .ref l], []⟩) (fun _ R s => s.heap.get? l = some { cls := .type "list", dict := d, data := .seq items n, slots := sl } ∧ R (.ok (.ret Value.notImplemented)) s) :=
  .of_wp fun prog w A R s h => by obtain ⟨hp, g, d, tk, os⟩ := s; obtain ⟨hl, h⟩ := h; wp_walk; exact ⟨_, rfl, h⟩
theorem q_tup_empty (l : Addr) (n : Nat) (dd : Option Addr) (sl : Array (Option Value)) (x : Int) (u : Tok) (c0 : (decide (x < -(2 ^ 63)) || decide (x ≥ 2 ^ 63)) = false) :
    Meets (Builtin.«tuple.__mul__» ⟨[.ref l, .int x u], []⟩) (fun _ R s => s.heap.get? l = some { cls := .type "tuple", dict := dd, data := .seq #[] n, slots := sl } ∧ R (.ok (.ret (Value.ref l))) s) :=
  .of_wp fun prog w A R s h => by
    obtain ⟨hp, g, d, tk, os⟩ := s
    obtain ⟨hl, h⟩ := h
    have f1 := AutoSeq1.idx_int
    wp_walk using wpAny_loadPart' hl
    refine wpAny_ite_false (decide_eq_false (by rw [c0]; exact Bool.false_ne_true)) ?_
    wp_walk using wpAny_loadPart' hl
    exact ⟨_, rfl, h⟩
section
variable {X : Cx}
theorem op_repL : OpR X (binaryOp .Mult) (fun x y H Q => ∃ a xs k, x = V.ref a ∧ y = V.int k ∧ SqL X.K H a xs ∧ 0 ≤ k ∧ k ≤ 1000 ∧ xs.length * k.toNat ≤ 1000000 ∧ ∀ p, H p = none → Q (.ref p) (upd H p (.lst (List.replicate k.toNat xs).flatten))) := by
  intro pins s σ H x y v u Q I rx ry h
  obtain ⟨a, xs, k, rfl, rfl, hs, k0, k1, hm, q⟩ := h
  obtain rfl : v = Value.ref a := rx
  obtain ⟨t, rfl⟩ := ry
  obtain ⟨its, rv, ⟨⟨cls, dd, data, sl⟩, n, ho, hc, hdn, hd⟩, hlen⟩ := I.list hs
  have hc1 : cls = Value.type "list" := hc
  have hd1 : data = Data.seq its.toArray n := hd
  subst hc1 hd1
  have hsl := sizeLine_eq
  have hz : its.toArray.size * k.toNat ≤ 1000000 := by rw [List.size_toArray, ← rv.length]; exact hm
  have hfit : ¬(!Builtin.List.listFitsIndex k) = true := by
    rw [fitsIndex_both (by omega) (by omega)]
    exact Bool.false_ne_true
  refine wpAny_binaryOp_repeat_ref (T := "list") (U := "int") (by decide) ⟨_, ho, rfl⟩ (fun s' => typeIs_int s' k t) noFill_list_mul F.fills_int_mul F.slot_int_rmul repeat_list F.slot_int_index.lookup
    (call_meets F.slot_int_rmul (typeIs_int s k t) F.entry_int_rmul (F.args_int_rmul_2 _ _) (q_rmul_int k t a its.toArray n dd sl)
      ⟨ho, rfl, ⟨_, ho, rfl⟩, call_meets F.slot_list_mul ⟨_, ho, rfl⟩ F.entry_list_mul (F.args_list_mul_2 _ _)
        (q_mul_int a its.toArray n dd sl k t hfit (by omega) (by simp only [Builtin.List.listTooLong, decide_eq_true_eq]; omega))
        ⟨ho, ?_⟩⟩)
  have e : List.foldl (fun x1 x2 => x1 ++ x2) #[] (List.replicate (if its.toArray.isEmpty = true then 0 else k.toNat) its.toArray) = (List.replicate k.toNat its).flatten.toArray := by
    rw [listMul_foldl_if]
  rw [e]
  refine ⟨.ref s.heap.objs.size, _, I.laid (t' := s.toks) (o := .lst (List.replicate k.toNat xs).flatten) (fun b o e => Heap.get?_push_of_some _ e) (Nat.le_refl _) ⟨?_, _, 0, rv.rep k.toNat, Heap.get?_push_size _ rfl⟩, rfl, q _ (I.hok.fresh (Nat.le_refl _))⟩
  rw [PyProof.Rows.lm_len_rep_flat, Nat.mul_comm]
  omega
theorem op_repE : OpR X (binaryOp .Mult) (fun x y H Q => ∃ a k, x = V.ref a ∧ y = V.int k ∧ SqT X.K H a [] ∧ 0 ≤ k ∧ k ≤ 1000 ∧ Q (.ref a) H) := by
  intro pins s σ H x y v u Q I rx ry h
  obtain ⟨a, k, rfl, rfl, hT, k0, k1, q⟩ := h
  obtain rfl : v = Value.ref a := rx
  obtain ⟨t, rfl⟩ := ry
  obtain ⟨its, r, ⟨⟨cls, dd, data, sl⟩, ho, hc, n, hd⟩, hs⟩ := I.tuple hT
  simp only at hc hd
  subst hc hd
  cases r
  have c0 : (decide (k < -(2 ^ 63)) || decide (k ≥ 2 ^ 63)) = false := by
    rw [decide_eq_false (by omega), decide_eq_false (by omega)]; rfl
  exact wpAny_binaryOp_repeat_ref (T := "tuple") (U := "int") (by decide) ⟨_, ho, rfl⟩ (fun s' => typeIs_int s' k t) noFill_tuple_mul F.fills_int_mul F.slot_int_rmul repeat_tuple F.slot_int_index.lookup
    (call_meets F.slot_int_rmul (typeIs_int s k t) F.entry_int_rmul (F.args_int_rmul_2 _ _) (int_rmul_tuple k t a #[] n dd sl)
      ⟨ho, rfl, ⟨_, ho, rfl⟩, call_meets F.slot_tuple_mul ⟨_, ho, rfl⟩ F.entry_tuple_mul (F.args_tuple_mul_2 _ _) (q_tup_empty a n dd sl k t c0) ⟨ho, ⟨.ref a, H, I, rfl, q⟩⟩⟩)
def gRepL : G2 := fun S dx dy => match vw S dx, dy with
  | .lst xs, .int k => if 0 ≤ k ∧ k ≤ 1000 ∧ xs.length * k.toNat ≤ 1000000 then some (.lst (List.replicate k.toNat xs).flatten) else none
  | _, _ => none
def gRepT : G2 := fun S dx dy => match vw S dx, dy with
  | .tup (x :: xs), .int k => if 2 ≤ k ∧ k ≤ 1000 ∧ (x :: xs).length ≤ 1000 then some (.tup (List.replicate k.toNat (x :: xs)).flatten) else none
  | _, _ => none
def gRepE : G2 := fun S dx dy => match vw S dx, dy with
  | .tup [], .int k => if 0 ≤ k ∧ k ≤ 1000 then some (.tup []) else none
  | _, _ => none
theorem opl_repL : OpL X (binaryOp .Mult) gRepL := .of op_repL fun H m S x y dx dy d q rx ry e => by
  unfold gRepL at e
  split at e
  · rename_i xs k e1
    split at e
    · rename_i hz
      cases e
      obtain ⟨a, vs, rfl, h1, r⟩ := vw_lst q rx e1
      cases ry
      exact ⟨a, vs, k, rfl, rfl, h1, hz.1, hz.2.1, by rw [r.length]; exact hz.2.2, fun p hp => qv_new q hp (vr_newLst q hp (r.rep _))⟩
    · cases e
  · cases e
theorem opl_repT : OpL X (binaryOp .Mult) gRepT := .of op_repT fun H m S x y dx dy d q rx ry e => by
  unfold gRepT at e
  split at e
  · rename_i z xs k e1
    split at e
    · rename_i hz
      cases e
      obtain ⟨a, vs, rfl, h1, r⟩ := vw_tup rx e1
      cases ry
      have hl := r.length
      refine ⟨a, k, vs, rfl, rfl, SqT.of h1, fun z => ?_, hz.1, hz.2.1, by rw [hl]; exact hz.2.2, fun p hp => qv_new q hp (vr_newTup q hp (r.rep _))⟩
      rw [z] at hl
      cases hl
    · cases e
  · cases e
theorem opl_repE : OpL X (binaryOp .Mult) gRepE := .of op_repE fun H m S x y dx dy d q rx ry e => by
  unfold gRepE at e
  split at e
  · rename_i k e1
    split at e
    · rename_i hz
      cases e
      obtain ⟨a, vs, rfl, h1, r⟩ := vw_tup rx e1
      cases ry
      cases r
      exact ⟨a, k, rfl, rfl, SqT.of h1, hz.1, hz.2, qv_same q (.tup h1 .nil)⟩
    · cases e
  · cases e
/-- a list, a tuple, a number: times a number -/
def gMulX : G2 := fun S x y => ((gMulI S x y).or (gRepL S x y)).or ((gRepT S x y).or (gRepE S x y))
theorem opl_mulX : OpL X (binaryOp .Mult) gMulX := (opl_mulI.or opl_repL).or (opl_repT.or opl_repE)
end
end MP

/-! a tuple backwards -/
namespace MP
open PySem PySem.Spec PyProof.Rows L2 HT
theorem adjust_rev (n : Nat) : Builtin.Slice.sliceAdjust none none (-1) (n : Int) = ((n : Int) - 1, -1) := by
  unfold Builtin.Slice.sliceAdjust
  simp
theorem places_rev (n : Nat) : Builtin.Slice.slicePlaces ((n : Int) - 1) (-1) (-1) = n := by
  unfold Builtin.Slice.slicePlaces
  rw [if_neg (by decide)]
  by_cases h : (n : Int) - 1 > -1
  · rw [if_pos h, show (- -1 : Int) = 1 by decide, Int.ediv_one]
    omega
  · rw [if_neg h]
    omega
theorem fm_congr {α β : Type} {f g : α → Option β} : ∀ {l : List α}, (∀ x ∈ l, f x = g x) → l.filterMap f = l.filterMap g
  | [], _ => rfl
  | x :: l, h => by
    have ih := fm_congr (f := f) (g := g) (l := l) fun y hy => h y (by simp [hy])
    rw [List.filterMap_cons, List.filterMap_cons, h x (by simp), ih]
theorem pick_rev (xs : Array Value) : ((List.range xs.size).filterMap fun (k : Nat) => xs[(((xs.size : Nat) : Int) - 1 + (k : Int) * -1).toNat]?).toArray = xs.toList.reverse.toArray := by
  have e : (List.range xs.size).filterMap (fun (k : Nat) => xs[(((xs.size : Nat) : Int) - 1 + (k : Int) * -1).toNat]?) = ((List.range xs.size).map fun k => xs.size - 1 - k).filterMap (xs[·]?) := by
    rw [List.filterMap_map]
    refine fm_congr fun k hk => ?_
    have := List.mem_range.mp hk
    show xs[_]? = xs[xs.size - 1 - k]?
    congr 1
    omega
  rw [e, PySem.W.krv_range, List.filterMap_reverse, PySem.W.krv_all]
section
variable {prog : Program} {w : World} {A : Around} {E : Value → Shared → Prop} {s : Shared}
theorem getItem_tuple_rev {t sl : Addr} {items : Array Value} {vl vu vs : Value} {Q : Value → Shared → Prop} (ht : IsTup s.heap t items) (hs : s.heap.IsSliceOf sl vl vu vs) (pl : IsPart vl none) (pu : IsPart vu none) (ps : IsPart vs (some (-1)))
    (h : Q (.ref s.heap.objs.size) { s with heap := s.heap.push { cls := .type "tuple", data := .seq items.toList.reverse.toArray } })
    (hsz : items.size ≤ sizeLine) : wpAny (model prog w) A (getItem (.ref t) (.ref sl)) Q E s := by
  have htake : sizeOk (.seq items.toList.reverse.toArray) := by
    show items.toList.reverse.toArray.size ≤ sizeLine
    rw [List.size_toArray, List.length_reverse, Array.length_toList]
    exact hsz
  obtain ⟨os, hos, hcs, hds⟩ := id hs
  have hTs : s.TypeIs (.ref sl) "slice" := ⟨os, hos, hcs⟩
  unfold getItem
  try with_reducible refine wpAny_holding ?_
  first | refine wpAny_bind (wpAny_pure ?_) | skip
  refine wpAny_bind (wpAny_sequenceKey ht.typeIs (by decide) ?_)
  refine wpAny_bind (wpAny_callSpecial?_slot (name := Str.ofString "__getitem__") ht.typeIs PyProof.Rows.slot_tuple_getitem
    (wpAny_call_entry PyProof.Rows.slot_tuple_getitem ht.typeIs entry_tuple_getitem ?_ (args_tuple_getitem _ _)))
  show wpAny _ _ (Builtin.Tuple.tupleItemsOf (.ref t) >>= _) _ _ s
  refine wpAny_bind (tupleItemsOf_ ht ?_)
  refine wpAny_bind (wpAny_typeOf hTs ?_)
  rw [if_pos (by decide)]
  refine wpAny_bind ?_
  unfold Builtin.Slice.sliceApplied Builtin.Slice.sliceFields
  refine wpAny_bind (wpAny_bind (wpAny_field hos hds (x := vl) rfl (wpAny_bind (wpAny_field hos hds (x := vu) rfl (wpAny_bind (wpAny_field hos hds (x := vs) rfl (wpAny_pure ?_)))))))
  refine wpAny_bind (slicePart_ ps ?_)
  show wpAny _ _ (if ((-1 : Int) == 0) = true then _ else _) _ _ s
  rw [if_neg (by decide)]
  refine wpAny_bind (slicePart_ pl (wpAny_bind (slicePart_ pu (wpAny_bind (wpAny_pure ?_)))))
  show wpAny _ _ (match Builtin.Slice.sliceAdjust none none (-1) (items.size : Int) with | (lo, hi) => pure (lo, (-1 : Int), Builtin.Slice.slicePlaces lo hi (-1))) _ _ s
  rw [adjust_rev]
  show wpAny _ _ (pure (((items.size : Nat) : Int) - 1, (-1 : Int), Builtin.Slice.slicePlaces (((items.size : Nat) : Int) - 1) (-1) (-1))) _ _ s
  rw [places_rev]
  refine wpAny_pure ?_
  show wpAny _ _ (if ((((items.size : Nat) : Int) - 1) == 0 && (-1 : Int) == 1 && items.size == items.size) = true then _ else _) _ _ s
  rw [if_neg (by rw [show ((-1 : Int) == 1) = false from rfl, Bool.and_false, Bool.false_and]; exact Bool.false_ne_true), pick_rev]
  first
    | exact wpAny_bind (m := Builtin.Tuple.tupleExact _) (wpAny_newObj_type (wpAny_pure ⟨_, rfl, wpAny_pure h⟩) htake)
    | exact wpAny_bind (m := Builtin.Tuple.tupleExact _) (wpAny_newObj_type (wpAny_bind (wpAny_pure (wpAny_pure ⟨_, rfl, wpAny_pure h⟩))) htake)
    | exact wpAny_bind (wpAny_bind (m := Builtin.Tuple.tupleExact _) (wpAny_newObj_type (wpAny_pure (wpAny_pure ⟨_, rfl, wpAny_pure h⟩)) htake))
    | exact wpAny_bind (wpAny_bind (m := Builtin.Tuple.tupleExact _) (wpAny_newObj_type (wpAny_pure ⟨_, rfl, wpAny_pure h⟩) htake))
end
def gRevT (S : Sto) (d : D) : Option D := match vw S d with
  | .tup xs => some (.tup xs.reverse)
  | _ => none
section
variable {X : Cx} {e b : Expr} {le lb : LE} {k : Nat} {p1 p2 p3 pos : Pos}
theorem pel_revT (he : PEL X e le) : PEL X (.Subscript e (.Slice none none (some (.UnaryOp .USub (.Constant (.int 1) k p1) p2)) p3) pos) (lUn gRevT le) := by
  refine ⟨fun pins s σ H m ρ S I x r hp => ?_⟩
  refine Subscript_ (run_seq he I x r hp fun d S1 q1 v u s1 H1 m1 I1 rv e1 x1 w1 r1 hp1 => ?_)
  obtain ⟨d', q2⟩ := lift_ok hp1
  have e0 : lUn gRevT le ρ S = .ok d' S1 := by unfold lUn; rw [q1, bind_ok, q2]; rfl
  rw [e0]
  have hst : PO X (some (.UnaryOp .USub (.Constant (.int 1) k p1) p2)) (tPart (tUn (rU fun i => .int (-i)) (tC (.int 1)))) := po_some (pe_un un_neg pe_int)
  refine wpAny_Slice (thn (po_none.run pins s1 σ H1 (fun o H2 => o = none ∧ H2 = H1) I1 ⟨rfl, rfl⟩) fun vl s2 ⟨l, H2, I2, pl, el, e2⟩ => ?_)
  subst el e2
  refine thn (po_none.run pins s2 σ H2 (fun o H3 => o = none ∧ H3 = H2) I2 ⟨rfl, rfl⟩) fun vu s3 ⟨u2, H3, I3, pu, eu, e3⟩ => ?_
  subst eu e3
  refine thn (hst.run pins s3 σ H3 (fun o H4 => o = some (-1) ∧ H4 = H3) I3 ⟨1, rfl, -1, rfl, rfl, rfl⟩) fun vs s4 ⟨o, H4, I4, ps, eo, e4⟩ => ?_
  subst eo e4
  have I5 : Inv X pins σ H4 { s4 with heap := s4.heap.push { cls := .type "slice", data := .fields #[vl, vu, vs] } } := I4.kept (t' := s4.toks) fun b ob q => Heap.get?_push_of_some _ q
  show wpAny (model X.prog X.w) X.A (subscriptTail e (.Slice none none (some (.UnaryOp .USub (.Constant (.int 1) k p1) p2)) p3) u (.ref s4.heap.objs.size)) _ X.xe { s4 with heap := s4.heap.push { cls := .type "slice", data := .fields #[vl, vu, vs] } }
  unfold gRevT at q2
  split at q2
  · rename_i xs hv
    cases q2
    obtain ⟨a, ws, rfl, hx, rr⟩ := vw_tup w1 hv
    obtain rfl : u = Value.ref a := rv
    obtain ⟨its, r', ht, hz⟩ := I5.tuple (SqT.of hx)
    have hlen := r'.length
    refine tail_any (ops := [.ref a, .ref s4.heap.objs.size]) ht.typeIs (PyProof.Rows.slot_tuple_getitem.lookup) ?_ (by with_unfolding_all rfl)
    refine getItem_tuple_rev ht (Heap.IsSliceOf.new _ vl vu vs) pl pu ps ?_ (by rw [List.size_toArray]; omega)
    have hf2 : H4 (s4.heap.push { cls := .type "slice", data := .fields #[vl, vu, vs] }).objs.size = none := I5.hok.fresh (Nat.le_refl _)
    exact (vpr_of ⟨.ref _, upd H4 _ (.tup ws.reverse), m1, I5.laid (t' := s4.toks) (o := .tup ws.reverse) (fun b ob q => Heap.get?_push_of_some _ q) (Nat.le_refl _) ⟨by rw [List.length_reverse]; exact hz, _, r'.reverse, IsTup.new _ _⟩, rfl, Ext.fresh hf2, x1.fresh hf2, vr_newTup x1 hf2 rr.reverse⟩).left e1
  · cases q2
end
end MP

/-! list(a text): its signs -/
namespace MP
open PySem PySem.Spec PyProof.Rows L2
section
variable {prog : Program} {w : World} {A : Around} {E : Value → Shared → Prop} {s : Shared}
theorem hint_text {x : Str} {t : Tok} {Q : Bool → Shared → Prop} (h : Q false s) : wpAny (model prog w) A (Builtin.List.listLengthHint (.str x t)) Q E s := by
  unfold Builtin.List.listLengthHint
  refine wpAny_bind (wpAny_specialOf (typeIs_str s x t) F.slot_str_len.lookup ?_)
  generalize hid : ("str.__len__" : String) = id0
  wp_delta
  rw [show splitId id0 = some ("str", "__len__") from by subst hid; decide +kernel]
  subst hid
  refine wpAny_bind (wpAny_isInstance (T := "str") (b := true) (typeIs_str s x t) (by rw [isSubtype_type]; kernel_rfl) ?_)
  refine wpAny_ite_split (fun hab => absurd hab (by decide)) (fun _ => ?_)
  refine wpAny_ite_split (fun _ => ?_) (fun hab => absurd (by decide +kernel) hab)
  refine wpAny_bind (wpAny_typeOf (typeIs_str s x t) ?_)
  exact wpAny_pure h
theorem call_list_text {x : Str} {t : Tok} {Q : Value → Shared → Prop} (hh : A.handled = none) (hlen : x.cps.size ≤ sizeLine)
    (hQ : ∀ h' tk acc' c', (∀ b o, s.heap.get? b = some o → h'.get? b = some o) →
      h'.get? s.heap.objs.size = some { cls := .type "list", dict := none, data := .seq acc' c', slots := #[] } → ItemsOf (SignAt x) acc' x.cps.size → Q (.ref s.heap.objs.size) { s with heap := h', toks := tk }) :
    wpAny (model prog w) A (call (.type "list") [.str x t]) Q E s := by
  refine callType_codes (Q₁ := fun obj s₁ => obj = .ref s.heap.objs.size ∧ s₁ = { s with heap := s.heap.push { cls := .type "list", data := .seq #[] } }) F.called_list (F.typeCall_list_1 _) F.entry_list_init
    (code_list_new _ ⟨rfl, rfl⟩) fun obj s₁ h₁ => ?_
  obtain ⟨rfl, rfl⟩ := h₁
  have hS : (s.heap.push { cls := .type "list", data := .seq #[] }).get? s.heap.objs.size = some { cls := .type "list", data := .seq #[] } := Heap.get?_push_size _ rfl
  refine ⟨⟨_, hS, rfl⟩, F.args_list_init_2 _ _, ?_⟩
  show wpAny _ _ (do let old ← Builtin.List.listItems (.ref s.heap.objs.size); Builtin.List.listUpdate (.ref s.heap.objs.size) (fun _ => #[]); letGo old.toList.reverse; Builtin.List.listExtendWith (.ref s.heap.objs.size) (.str x t) .none) _ _ _
  refine wpAny_bind ?_
  unfold Builtin.List.listItems
  refine wpAny_bind (wpAny_seqItems hS rfl (wpAny_pure ?_))
  show wpAny _ _ (updateSeq s.heap.objs.size (fun _ => #[]) >>= fun _ => letGo (#[] : Array Value).toList.reverse >>= fun _ => Builtin.List.listExtendWith (.ref s.heap.objs.size) (.str x t) .none) _ _ _
  refine wpAny_bind (wpAny_updateSeq hS rfl ?_)
  have hS2 := Heap.get?_update_self (Obj.mapSeq (fun _ => (#[] : Array Value))) hS rfl
  have oth : ∀ b o, s.heap.get? b = some o → ((s.heap.push { cls := .type "list", data := .seq #[] }).update s.heap.objs.size (Obj.mapSeq (fun _ => (#[] : Array Value)))).get? b = some o :=
    fun b o e => (Heap.get?_update_other _ _ (Ne.symm (Nat.ne_of_lt (Heap.lt_size e)))).trans (Heap.get?_push_of_some _ e)
  refine wpAny_bind (wpAny_letGo ?_)
  have hsz : ((s.heap.push { cls := .type "list", data := .seq #[] }).update s.heap.objs.size (Obj.mapSeq (fun _ => (#[] : Array Value)))).objs.size = s.heap.objs.size + 1 := by
    rw [Heap.size_update, Heap.size_push]
  generalize (s.heap.push { cls := .type "list", data := .seq #[] }).update s.heap.objs.size (Obj.mapSeq (fun _ => (#[] : Array Value))) = h2 at hS2 oth hsz ⊢
  unfold Builtin.List.listExtendWith
  refine wpAny_bind (wpAny_typeOf (T := "str") (typeIs_str _ x t) ?_)
  have q1 : Builtin.List.listSameRef (.ref s.heap.objs.size) (.str x t) = false := rfl
  have q2 : (Value.type "str" == Value.type "list") = false := by decide
  have q3 : (Value.type "str" == Value.type "tuple") = false := by decide
  simp only [q1, q2, q3, Bool.or_false, Bool.false_eq_true, if_false]
  refine wpAny_bind (wpAny_pyIter_str fun o St W hst => ?_)
  refine wpAny_bind (wpAny_holding (hint_text ?_))
  simp only [Bool.false_eq_true, if_false]
  have hI : s.heap.objs.size ≠ h2.objs.size := by omega
  have hSf : s.heap.objs.size ∉ [h2.objs.size] := fun z => hI (List.mem_singleton.mp z)
  have hS3 := Heap.get?_push_of_some o hS2
  refine wpAny_pure ⟨plainId_quiet F.plain_extend_loop _, codeAny_extend_loopS ((W A.in1.in1 (by simp [hh])).toS) hlen _ hSf _ _ 0 _ _ _ rfl (Nat.zero_le _) hst hS3 (ItemsOf.nil _) fun s' acc' c' hm hS' hacc => ?_⟩
  rw [Moved.eq_with hm]
  refine ⟨rfl, hQ s'.heap s'.toks acc' c' (fun b o' e => hm.heap b o' (fun z => ?_) (Heap.get?_push_of_some _ (oth b o' e))) hS' hacc⟩
  have hlt := Heap.lt_size e
  rcases List.mem_cons.mp z with z | z
  · exact absurd hlt (by rw [z]; exact Nat.lt_irrefl _)
  · have z2 := List.mem_singleton.mp z
    exact absurd hlt (by rw [z2, hsz]; exact Nat.not_lt_of_le (Nat.le_succ _))
/-- the signs of a text, one by one -/
def sgsD (x : Str) : List D := x.cps.toList.map fun c => D.str ⟨#[c]⟩
theorem vals_signs {x : Str} {acc : Array Value} (h : ItemsOf (SignAt x) acc x.cps.size) : Vals (x.cps.toList.map fun c => V.str ⟨#[c]⟩) acc.toList := by
  have hl : acc.toList.length = x.cps.toList.length := by rw [Array.length_toList, Array.length_toList]; exact h.1
  have hv := vals_of_get acc.toList (fun j => V.str ⟨#[x.cps.toList.getD j 0]⟩) fun j u hj => by
    obtain ⟨c, t, hc, e⟩ := h.2 j u (by rw [← Array.getElem?_toList]; exact hj)
    rw [e]
    have e2 : x.cps.toList.getD j 0 = c := by
      rw [← Array.getElem?_toList] at hc
      rw [List.getD, hc]; rfl
    rw [e2]
    exact ⟨t, rfl⟩
  have e : ((List.range acc.toList.length).map fun j => V.str ⟨#[x.cps.toList.getD j 0]⟩) = x.cps.toList.map fun c => V.str ⟨#[c]⟩ := by
    refine List.ext_getElem (by simp [hl]) fun i h1 h2 => ?_
    have hi : i < x.cps.toList.length := by simpa using h2
    have e3 : x.cps.toList.getD i 0 = x.cps.toList[i] := by rw [List.getD, List.getElem?_eq_getElem hi]; rfl
    rw [List.getElem_map, List.getElem_map, List.getElem_range, e3]
  rw [e] at hv
  exact hv
theorem vrs_signs {K : PySem.W.Frag} {m : List Addr} {H : Hp} : ∀ l : List Nat, VRs K m H (l.map fun c => V.str ⟨#[c]⟩) (l.map fun c => D.str ⟨#[c]⟩)
  | [] => .nil
  | c :: l => .cons (.str _) (vrs_signs l)
end
/-- list(a text), put into the store -/
def lListS (t : LA) : LE := fun ρ S => (t ρ S).bind fun ds S1 => match ds with
  | [.str x] => if x.length ≤ 1000 then .ok (.ref S1.length) (S1 ++ [.lst (sgsD x)]) else .bad
  | _ => .bad
theorem pel_listS {X : Cx} {x : Str} {e : Expr} {es : List Expr} {t : LA} {p pos : Pos} (hc : X.calm = true) (hg : Gl X x) (hm : X.mg x = none) (hv : bootBuiltins x = some (.type "list")) (ha : PAL X (e :: es) t) (hn : x ≠ "__name__" := by decide) (hdb : (x == ("__debug__" : Str)) = false := by decide)
    (he : starEach (e :: es) X.env = (false, eval e X.env) :: starEach es X.env := by rfl) (hpl : (backTo pos (starEach es X.env)).any (·.1) = false := by rfl) : PEL X (.Call (.Name x p) (e :: es) [] pos) (lListS t) := by
  refine ⟨fun pins s σ H m ρ S I x0 r hp => ?_⟩
  refine wpAny_Call_Name_kw (ld_blt I hg hm hv ?_ hn hdb)
  refine PyProof.Rows.callWith_type1 (run_seqA ha I x0 r hp fun ds S1 q1 vs us s1 H1 m1 I1 rv e1 x1 w1 r1 hp1 => ?_) he hpl
  cases w1 with
  | nil => exact absurd rfl hp1.1
  | cons w w2 =>
    cases w2 with
    | cons _ _ => cases w <;> exact absurd rfl hp1.1
    | nil =>
      cases w with
      | str z =>
        have hz := hope_if hp1
        have e0 : lListS t ρ S = .ok (.ref S1.length) (S1 ++ [.lst (sgsD z)]) := by
          unfold lListS
          rw [q1, bind_ok]
          exact if_pos hz
        rw [e0]
        obtain ⟨u, rfl, ru⟩ := rv.one
        obtain ⟨tk, rfl⟩ := ru
        have hzs : z.cps.size ≤ 1000 := hz
        refine call_list_text (I1.ok.hd hc) (by rw [sizeLine_eq]; omega) fun h' tk' acc c k hg' hI => ?_
        have hv' := vals_signs hI
        have hf : H1 s1.heap.objs.size = none := I1.hok.fresh (Nat.le_refl _)
        have J := I1.laid (t' := tk') (o := .lst (z.cps.toList.map fun c => V.str ⟨#[c]⟩)) k (Nat.le_refl _) ⟨by rw [List.length_map, Array.length_toList, sizeLine_eq]; omega, acc.toList, c, hv', hg'⟩
        obtain ⟨m', z1, z2, z3⟩ := qv_newL x1 hf (vrs_signs (K := X.K) (m := m1) (H := H1) z.cps.toList)
        exact (vpr_of ⟨.ref _, _, m', J, rfl, z1, z2, z3⟩).left e1
      | _ => exact absurd rfl hp1.1
end MP

/-! i not in range(a, b) -/
namespace MP
open PySem PySem.Spec PyProof.Rows L2
section
variable {X : Cx}
theorem op_notIn_rng : OpR X (compareOp .NotIn) (fun x y H Q => ∃ i a lo hi, x = V.int i ∧ y = V.ref a ∧ H a = some (.rng lo hi) ∧ Q (.bl (!decide (lo ≤ i ∧ i < hi))) H) := by
  intro pins s σ H x y v u Q I rx ry h
  obtain ⟨i, a, lo, hi, rfl, rfl, ha, q⟩ := h
  obtain ⟨k, rfl⟩ := rx
  obtain rfl : u = Value.ref a := ry
  obtain ⟨t1, t2, t3, ho⟩ := I.hok a _ ha
  show wpAny _ _ (do return Value.bool (!(← contains (Value.ref a) (Value.int i k)))) _ _ s
  refine wpAny_bind (wpAny_contains_slot (T := "range") ⟨_, ho, rfl⟩ F.slot_range_contains (call_meets F.slot_range_contains ⟨_, ho, rfl⟩ F.entry_range_contains (F.args_range_contains_2 _ _) (q_contains a lo hi i t1 t2 t3 k)
    ⟨ho, wpAny_truthy_bool (wpAny_pure ⟨.bl _, H, I, rfl, ?_⟩)⟩))
  rw [place1]
  exact q
def lNotRng (le : LE) (t : LA) : LE := fun ρ S => (le ρ S).bind fun x S1 => (t ρ S1).bind fun ds S2 => match x, ds with
  | .int i, [.int a, .int b] => .ok (.bl (!decide (a ≤ i ∧ i < b))) S2
  | _, _ => .bad
theorem run_notInRng {e a : Expr} {es : List Expr} {le : LE} {t : LA} {p q : Pos} (hg : Gl X "range") (hm : X.mg "range" = none) (he : PEL X e le) (ha : PAL X (a :: es) t)
    (hs : starEach (a :: es) X.env = (false, eval a X.env) :: starEach es X.env) (hpl : (backTo q (starEach es X.env)).any (·.1) = false)
    {pins : List (Addr × Obj)} {s : Shared} {σ : L2.St} {H : Hp} {m : List Addr} {ρ : Ev} {S : Sto} (I : Inv X pins σ H s) (x : SR X.K m H S) (r : ER X.K m H σ ρ) (hp : Hope X σ m H (lNotRng le t ρ S)) :
    wpAny (model X.prog X.w) X.A (eval e X.env) (fun v s₁ => wpAny (model X.prog X.w) X.A (eval (.Call (.Name "range" p) (a :: es) [] q) X.env) (fun u s₂ => wpAny (model X.prog X.w) X.A (compareOp .NotIn v u) (VPr X pins σ m H (lNotRng le t ρ S)) X.xe s₂) X.xe s₁) X.xe s := by
  refine run_seq he I x r hp fun d S1 q1 v u s1 H1 m1 I1 rv e1 x1 w1 r1 hp1 => ?_
  refine wpAny_Call_Name_kw (ld_blt I1 hg hm boot_range ?_ (by decide) (by decide))
  refine PyProof.Rows.callWith_type1 (run_seqA ha I1 x1 r1 hp1 fun ds S2 q2 vs us s2 H2 m2 I2 rv2 e2 x2 w2 r2 hp2 => ?_) hs hpl
  split at hp2
  · rename_i i a b
    have e0 : lNotRng le t ρ S = .ok (.bl (!decide (a ≤ i ∧ i < b))) S2 := by
      unfold lNotRng
      rw [q1, bind_ok, q2, bind_ok]
    rw [e0]
    cases w1
    cases w2 with
    | cons wa w2 =>
      cases w2 with
      | cons wb w2 =>
        cases w2
        cases wa
        cases wb
        refine thn (cr_range2 pins s2 σ H2 _ us (fun v' H' => ∃ p, H2 p = none ∧ v' = .ref p ∧ H' = upd H2 p (.rng a b)) I2 rv2 ⟨a, b, rfl, fun p hp => ⟨p, hp, rfl, rfl⟩⟩) fun u3 s3 ⟨v3, H3, I3, rv3, p, hpn, ev, eH⟩ => ?_
        subst ev
        subst eH
        have e3 : Ext m2 H2 m2 (upd H2 p (.rng a b)) := Ext.fresh hpn
        refine thn (op_notIn_rng pins s3 σ _ (.int i) (.ref p) u u3 (fun v' H' => v' = .bl (!decide (a ≤ i ∧ i < b)) ∧ H' = upd H2 p (.rng a b)) I3 rv rv3 ⟨i, p, a, b, rfl, rfl, upd_same, rfl, rfl⟩) fun u4 s4 ⟨v4, H4, I4, rv4, ev4, eH4⟩ => ?_
        subst ev4
        subst eH4
        exact (vpr_of ⟨.bl _, _, m2, I4, rv4, e3, x2.fresh hpn, .bl _⟩).left (e1.trans e2)
  · exact absurd rfl hp2.1
theorem pel_notInRng {e a : Expr} {es : List Expr} {le : LE} {t : LA} {p q pos : Pos} (hg : Gl X "range") (hm : X.mg "range" = none) (he : PEL X e le) (ha : PAL X (a :: es) t)
    (hs : starEach (a :: es) X.env = (false, eval a X.env) :: starEach es X.env := by rfl) (hpl : (backTo q (starEach es X.env)).any (·.1) = false := by rfl)
    (hin : behindInMarks .NotIn (.Call (.Name "range" p) (a :: es) [] q) = false := by first | exact nobehind _ (by decide) (by decide) | rfl) :
    PEL X (.Compare e [.NotIn] [.Call (.Name "range" p) (a :: es) [] q] pos) (lNotRng le t) :=
  ⟨fun pins s σ H m ρ S I x r hp => wpAny_Compare1 (run_notInRng hg hm he ha hs hpl I x r hp) hin⟩
theorem ptl_notInRng {e a : Expr} {es : List Expr} {le : LE} {t : LA} {p q pos : Pos} (hg : Gl X "range") (hm : X.mg "range" = none) (he : PEL X e le) (ha : PAL X (a :: es) t)
    (hs : starEach (a :: es) X.env = (false, eval a X.env) :: starEach es X.env := by rfl) (hpl : (backTo q (starEach es X.env)).any (·.1) = false := by rfl)
    (hin : behindInMarks .NotIn (.Call (.Name "range" p) (a :: es) [] q) = false := by first | exact nobehind _ (by decide) (by decide) | rfl) :
    PTL X (.Compare e [.NotIn] [.Call (.Name "range" p) (a :: es) [] q] pos) (tTru (lNotRng le t)) := by
  refine ⟨fun pins s σ H m ρ S I x r hp => ?_⟩
  have hp0 : Hope X σ m H (lNotRng le t ρ S) := by
    unfold tTru at hp
    cases z : lNotRng le t ρ S with
    | bad => rw [z] at hp; exact absurd rfl hp.1
    | exc C fs S' => rw [z] at hp; exact hp.exc
    | ok d S1 => exact Hope.ok
  refine wpAny_isTrue_Compare1 (thn (run_notInRng hg hm he ha hs hpl I x r hp0) fun v s1 h1 => thn h1 fun u s2 h2 => thn h2 fun w s3 ⟨d, S3, z, v3, H3, m3, I3, rv, e3, x3, w3⟩ => ?_) hin
  refine tru_run (s := s) z I3 rv e3 x3 w3 ?_
  unfold tTru at hp
  rw [z, bind_ok] at hp
  exact hp.ext e3
end
end MP

/-! {text: text}, its repr -/
namespace MP
open PySem PySem.Spec PyProof.Rows L2
section
variable {X : Cx}
theorem upd2 {H : Hp} {p : Addr} {a b : HO} : upd (upd H p a) p b = upd H p b := by
  funext q
  unfold upd
  split <;> rfl
theorem pel_disp1 {k v : Str} {j1 j2 : Nat} {p1 p2 pos : Pos} : PEL X (.Dict [some (.Constant (.str k) j1 p1)] [.Constant (.str v) j2 p2] pos) (fun _ S => .ok (.dct false [(.str k, .str v)]) S) :=
  .of_pe (pe_disp (pps_cons pe_str pe_str pps_nil) rfl rfl (by simp) (by simp)) fun σ H m ρ S x er hp p hn => by
    refine ⟨upd_same, [(.inr k, .str v)], rfl, by simp, _, _, rfl, ?_⟩
    rw [upd2]
    exact qv_new x hn (.dct (x.nin hn) upd_same (.cons (k := .inr k) (.str _) .nil))
theorem vdk1 {K : PySem.W.Frag} {m : List Addr} {H : Hp} {vs : List (Key × V)} {d1 d2 : D} (r : VDk K m H vs [(d1, d2)]) : ∃ k' v', vs = [(k', v')] ∧ keyD k' = d1 ∧ VR K m H v' d2 := by
  generalize e : [(d1, d2)] = ds at r
  cases r with
  | nil => cases e
  | @cons k v d vs ds h r =>
    injection e with e1 e2
    injection e1 with a b
    subst e2
    cases r
    exact ⟨k, v, rfl, a.symm, b ▸ h⟩
def gReprK1 : GC := fun _ ds => match ds with
  | [.dct false [(.str k, .str v)]] => if (PyData.dict [(.str k, .str v)]).shown.length ≤ sizeLine then some (.str (PyData.dict [(.str k, .str v)]).shown) else none
  | _ => none
theorem cl_reprK1 (hg : X.A.guards = some []) (hu : X.A.units + 64 < cLine) : CallL X (.builtin "repr") gReprK1 := ⟨fun pins s σ H m S xs ds d us I q r rv e => by
  unfold gReprK1 at e
  split at e
  · rename_i k v
    split at e
    · rename_i hz
      cases e
      obtain ⟨w, rfl, rw'⟩ := r.one
      cases rw' with
      | @dct a vs _ n h rr =>
        obtain ⟨k', v', rfl, ek, rv'⟩ := vdk1 rr
        cases k' with
        | inl i => cases ek
        | inr k2 =>
          cases ek
          cases rv'
          obtain ⟨_, hsys, vs2, rk, o, es, ep, h1, h2, h3, h4, h5, _⟩ := (show ObjOk X.prog X.w H s.heap a (.dK [(.inr k, .str v)]) from I.hok a _ h)
          cases rk with
          | cons z rk =>
            cases rk
            obtain ⟨z1, z2⟩ := z
            obtain ⟨l⟩ := es
            cases h5 with
            | @cons e0 kv es0 kvs0 g1 g2 g3 =>
              cases g3
              obtain ⟨tv, etv⟩ := z2
              dsimp only at z1
              rw [← z1] at g1
              obtain ⟨tk, etk⟩ := Value.isStrOf_shape (show Value.isStrOf k e0.key = true from g1)
              rw [Vals.ref1 rv]
              have hT : s.TypeIs (.ref a) "dict" := ⟨o, h1, h2.1⟩
              have hk : (reprText k).length ≤ sizeLine ∧ (reprText v).length ≤ sizeLine := by
                have hd : (reprText k ++ ": " ++ reprText v).length ≤ sizeLine := Nat.le_trans (dictText_mem_le (ps := [reprText k ++ ": " ++ reprText v]) (by simp)) hz
                have hl : ∀ x y : Str, (x ++ y).length = x.length + y.length := fun x y => by
                  show (x.cps ++ y.cps).size = _
                  rw [Array.size_append]; rfl
                rw [hl, hl] at hd
                omega
              have hE : ReprEntriesK X.prog X.w [] s.heap 1 [e0] [reprText k ++ ": " ++ reprText v] := .cons (by rw [etk]; exact .of_is (ReprIs.str k tk hk.1) _ _ _) (by rw [g2, etv]; exact .of_is (ReprIs.str v tv hk.2) _ _ _) .nil
              refine call_repr_slot (by omega) hT F.slot_dict_repr (call_dict_reprK (as := []) h1 h2.1 h3 hsys (by simp) hE hg (fun b hb => Clear.nil b) (by show X.A.units + 1 + 2 < cLine; omega) (fun _ _ e => e) (fun h' u tk hk => ⟨_, _, rfl, ?_⟩) ?_)
              · exact ⟨.str _, H, m, I.kept (t' := tk) hk, ⟨u, rfl⟩, Ext.refl, q, .str _⟩
              · exact hz
    · cases e
  · cases e⟩
end
end MP

/-! isinstance of any datum: text, tuple -/
namespace MP
open PySem PySem.Spec PyProof.Rows L2
def tabStrA : Tab
  | .str => some true
  | .obj _ => none
  | _ => some false
theorem isi_strA {K : PySem.W.Frag} : IsiOk K (.type "str") tabStrA := ⟨fun t b h => by
  cases t with
  | obj C => cases h
  | _ => first
    | (cases h; exact ⟨kit_ty (by decide +kernel), fun C z => nomatch z⟩)
    | skip⟩
def tabTupA : Tab
  | .tup => some true
  | .obj _ => none
  | _ => some false
theorem isi_tupleA {K : PySem.W.Frag} : IsiOk K (.type "tuple") tabTupA := ⟨fun t b h => by
  cases t with
  | obj C => cases h
  | _ => first
    | (cases h; exact ⟨kit_ty (by decide +kernel), fun C z => nomatch z⟩)
    | skip⟩
end MP

/-! sets of tuples of numbers and texts: the search, an insertion (HandS.TupSets has them for tuples of ints) -/
namespace MP
open PySem PySem.Spec PyProof.Rows L2
/-- the hash of such a tuple -/
abbrev hT (P : Program) (w : World) (k : List Key) : Int := tupleKeyHash (mixKind P w) k
abbrev TuK (P : Program) (w : World) (h : Heap) (k : List Key) (a : Addr) : Prop := IsTupleKey (mixKind P w) h k a
/-- the probe behind c steps -/
abbrev stp (t : SetTable) (h : Int) (c : Nat) : SetTable.Probe := nth t.mask (t.probeStart h) c
theorem stp_dummy (t : SetTable) (h : Int) (c : Nat) : (stp t h c).dummy = none := by
  have key : ∀ (n : Nat) (p : SetTable.Probe), p.dummy = none → (nth t.mask p n).dummy = none := fun n => by
    induction n with
    | zero => exact fun p q => q
    | succ n ih =>
      refine fun p q => ih (adv t.mask p) ?_
      unfold adv
      split
      · exact q
      · exact q
  exact key c _ rfl
theorem stp_add (t : SetTable) (h : Int) (c q : Nat) : nth t.mask (stp t h c) q = stp t h (c + q) := (nth_add t.mask c (t.probeStart h) q).symm
theorem stp_way (t : SetTable) (h : Int) (c : Nat) : (stp t h c).j = way t.mask h c := rfl
def entT (P : Program) (w : World) (p : Addr × List Key) : Int × Value := (hT P w p.2, .ref p.1)
/-- at a: a set of the tuples L, with a table that can be walked -/
structure StT (P : Program) (w : World) (h : Heap) (a : Addr) (L : List (Addr × List Key)) (es : Array (Int × Value)) (ep : Nat) (t : SetTable) : Prop where
  obj : ∃ o, h.get? a = some o ∧ o.ExactSet ∧ o.data = .set es ep t
  ent : es.toList = L.map (entT P w)
  tab : TabOk t (L.map fun p => hT P w p.2)
  once : (L.map (·.2)).Nodup
  keys : ∀ p ∈ L, TuK P w h p.2 p.1
  led : w.params.followText "set-order" = true ∨ t.led = true
  room : L.length * 5 < t.mask * 3
  few : L.length < 64
section
variable {P : Program} {w : World} {A : Around} {E : Value → Shared → Prop} {s : Shared} {a : Addr} {L : List (Addr × List Key)} {es : Array (Int × Value)} {ep : Nat} {t : SetTable}
theorem item_scan {k : List Key} {vs : List Value} (h : ItemsAre (mixKind P w) k vs) : ∀ v ∈ vs, v.scannable = true := by
  induction h with
  | nil => exact fun v hv => nomatch hv
  | @cons k0 v' ks vs h1 _ ih =>
    intro v hv
    rcases List.mem_cons.mp hv with rfl | hv
    · rcases keyIs_shape h1 with ⟨i, t, _, rfl⟩ | ⟨x, t, _, rfl⟩ <;> rfl
    · exact ih v hv
theorem class_scan {v : Value} (h : v.scannable = true) (n : Nat) : ofAClassStatement n v = pure false := by
  cases v with
  | ref _ => cases h
  | _ => cases n <;> rfl
theorem class_tuK {k : List Key} {b : Addr} {Q : Bool → Shared → Prop} (hk : TuK P w s.heap k b) (q : Q false s) : wpAny (model P w) A (ofAClassStatement 8 (.ref b)) Q E s := by
  have ty := hk.typeIs
  obtain ⟨o, its, n, ho, _, hd, hi⟩ := hk
  unfold ofAClassStatement
  refine wpAny_bind (wpAny_typeOf ty ?_)
  dsimp only
  simp only [show (("tuple" : String) == "tuple") = true by decide, if_true, Bool.not_true, Bool.false_eq_true, if_false]
  try refine wpAny_bind (wpAny_pure ?_)
  try simp only [Bool.not_true, Bool.false_eq_true, if_false]
  show wpAny _ _ (seqItems? (.ref b) >>= _) _ _ s
  refine wpAny_bind (wpAny_seqItems ho hd ?_)
  dsimp only
  refine wpAny_bind ?_
  show wpAny _ _ (forIn its _ _) _ _ s
  rw [← Array.forIn_toList]
  refine wpAny_forIn_list _ (fun rest r s1 => (∀ v ∈ rest, v.scannable = true) ∧ r.1 = none ∧ s1 = s) _ ?_ ?_ _ _ ⟨item_scan hi, rfl, rfl⟩
  · rintro v rest r s1 ⟨hall, hr, rfl⟩
    rw [class_scan (hall v List.mem_cons_self)]
    refine wpAny_bind (wpAny_pure ?_)
    simp only [Bool.false_eq_true, if_false]
    exact wpAny_pure ⟨fun u hu => hall u (List.mem_cons_of_mem _ hu), rfl, rfl⟩
  · rintro ⟨r1, r2⟩ s1 ⟨_, hr, rfl⟩
    simp only at hr
    subst hr
    exact wpAny_pure q
theorem value_scan {v : Value} (h : v.scannable = true) (n : Nat) : ∃ b, hashByValue n v = pure b := by
  cases v with
  | ref _ => cases h
  | _ => first | (cases h; done) | (refine ⟨true, ?_⟩; cases n <;> rfl) | (refine ⟨false, ?_⟩; cases n <;> rfl)
theorem value_tuK {k : List Key} {b : Addr} {Q : Bool → Shared → Prop} (hk : TuK P w s.heap k b) (q : ∀ c, Q c s) : wpAny (model P w) A (hashByValue 8 (.ref b)) Q E s := by
  have ty := hk.typeIs
  obtain ⟨o, its, n, ho, _, hd, hi⟩ := hk
  unfold hashByValue
  refine wpAny_bind (wpAny_specialOf ty F.slot_tuple_hash.lookup ?_)
  show wpAny _ _ (seqItems? (.ref b) >>= _) _ _ s
  refine wpAny_bind (wpAny_seqItems ho hd ?_)
  refine wpAny_bind ?_
  show wpAny _ _ (forIn its _ _) _ _ s
  rw [← Array.forIn_toList]
  refine wpAny_forIn_list _ (fun rest r s1 => (∀ v ∈ rest, v.scannable = true) ∧ s1 = s) _ ?_ ?_ _ _ ⟨item_scan hi, rfl⟩
  · rintro v rest r s1 ⟨hall, rfl⟩
    obtain ⟨c, hc⟩ := value_scan (hall v List.mem_cons_self) 7
    have nx : ∀ u ∈ rest, u.scannable = true := fun u hu => hall u (List.mem_cons_of_mem _ hu)
    rw [hc]
    refine wpAny_bind (wpAny_pure ?_)
    cases c with
    | true =>
      simp only [Bool.not_true, Bool.false_eq_true, if_false]
      exact wpAny_pure ⟨nx, rfl⟩
    | false =>
      simp only [Bool.not_false, if_true]
      exact wpAny_pure (wpAny_pure (q _))
  · rintro ⟨r1, r2⟩ s1 ⟨_, rfl⟩
    cases r1 with
    | none => exact wpAny_pure (q _)
    | some c => exact wpAny_pure (q _)
/-- a search shows nothing of the table -/
theorem unseen {k : List Key} {b : Addr} {Q : Bool → Shared → Prop} (hk : TuK P w s.heap k b) {ys : List Value} (hy : ∀ y ∈ ys, ∃ j c, TuK P w s.heap j c ∧ y = .ref c) (q : Q false s) :
    wpAny (model P w) A (searchCouldBeSeen (.ref b) ys) Q E s := by
  unfold searchCouldBeSeen
  refine wpAny_bind ?_
  refine wpAny_forIn_list _ (fun rest r s1 => (∀ y ∈ rest, ∃ j c, TuK P w s1.heap j c ∧ y = Value.ref c) ∧ r.1 = none ∧ s1 = s) _ ?_ ?_ _ _ ⟨hy, rfl, rfl⟩
  · rintro v rest r s1 ⟨hall, hr, rfl⟩
    obtain ⟨j, c, hc, rfl⟩ := hall v List.mem_cons_self
    have nx := fun u hu => hall u (List.mem_cons_of_mem _ hu)
    dsimp only
    by_cases hv : (b == c || (carriedByValue (.ref b) && carriedByValue (.ref c))) = true
    · exact wp_if_pos hv (wpAny_pure ⟨nx, rfl, rfl⟩)
    · refine wp_if_neg hv ?_
      refine wpAny_bind (wpAny_eqIsQuiet_tuple hk ?_)
      simp only [Bool.not_true, Bool.false_eq_true, if_false]
      refine wpAny_bind (wpAny_eqIsQuiet_tuple hc ?_)
      simp only [Bool.not_true, Bool.false_eq_true, if_false]
      refine wpAny_bind (class_tuK hk ?_)
      simp only [Bool.false_eq_true, if_false]
      refine wpAny_bind (class_tuK hc ?_)
      simp only [Bool.false_eq_true, if_false]
      exact wpAny_pure ⟨nx, rfl, rfl⟩
  · rintro ⟨r1, r2⟩ s1 ⟨_, hr, rfl⟩
    simp only at hr
    subst hr
    exact wpAny_pure q
theorem StT.size (R : StT P w s.heap a L es ep t) : es.size = L.length := by
  have q := congrArg List.length R.ent
  simpa using q
theorem StT.psize (R : StT P w s.heap a L es ep t) : t.place.toList.length = L.length := by
  have q := R.tab.sz
  rw [List.length_map] at q
  rw [Array.length_toList, q]
theorem StT.fits (R : StT P w s.heap a L es ep t) : t.fits es.size = true := by
  have q1 := R.psize
  have q2 := R.size
  have q3 := R.room
  rw [Array.length_toList] at q1
  unfold SetTable.fits SetTable.fill
  rw [R.tab.dm, Bool.and_eq_true, beq_iff_eq, decide_eq_true_eq]
  show t.place.size = es.size ∧ t.place.size + 0 ≤ t.mask
  omega
theorem StT.at_ (R : StT P w s.heap a L es ep t) {i : Nat} {p : Addr × List Key} (h : L[i]? = some p) : es[i]? = some (entT P w p) := by
  rw [← Array.getElem?_toList, R.ent, List.getElem?_map, h]
  rfl
theorem StT.sound (R : StT P w s.heap a L es ep t) : ¬ t.gaveWay = true := by
  unfold SetTable.gaveWay
  rw [mask_odd R.tab.mok]
  decide
/-- the search for k from the c-th step on; K: the first empty place on the way -/
theorem StT.search (R : StT P w s.heap a L es ep t) {x : Addr} {k : List Key} (hx : TuK P w s.heap k x) (hu : A.units < cLine) {K : Nat} (big : K < 10 * SetTable.turns t.mask) (free : way t.mask (hT P w k) K ∉ t.place.toList)
    (taken : ∀ c, c < K → way t.mask (hT P w k) c ∈ t.place.toList) {Q : SetFound → Shared → Prop} (yes : k ∈ L.map (·.2) → Q (.there none) s) (no : k ∉ L.map (·.2) → Q (.free (way t.mask (hT P w k) K) false) s) :
    ∀ (f c : Nat) (stand : Option SetTable.Probe), c ≤ K → K - c < f → stand.getD (t.probeStart (hT P w k)) = stp t (hT P w k) c →
      (∀ (i : Nat) (p : Addr × List Key), L[i]? = some p → p.2 = k → ∃ d, c ≤ d ∧ d < K ∧ t.place.toList[i]? = some (way t.mask (hT P w k) d)) → wpAny (model P w) A (setSearchFrom a (.ref x) (hT P w k) true f stand) Q E s := by
  intro f
  induction f with
  | zero => exact fun c stand _ z => absurd z (Nat.not_lt_zero _)
  | succ f ih =>
    intro c stand hc hf hst left
    obtain ⟨o, ho, hex, hd⟩ := R.obj
    rw [setSearchFrom_succ]
    refine wpAny_bind (wpAny_setState_of ho hd R.fits ?_)
    dsimp only
    refine wp_if_neg R.sound ?_
    try refine wpAny_bind (wpAny_pure ?_)
    have jj : ∀ q, (nth t.mask (stp t (hT P w k) c) q).j = way t.mask (hT P w k) (c + q) := fun q => congrArg SetTable.Probe.j (stp_add t (hT P w k) c q)
    have eK : c + (K - c) = K := by omega
    have hh : ∀ (i : Nat) p, L[i]? = some p → (es[i]?.map (·.1)).getD 0 = hT P w p.2 := fun i p hp => by rw [R.at_ hp]; rfl
    rw [hst]
    rcases go_spec t R.tab.ris R.tab.dm (fun i => (es[i]?.map (·.1)).getD 0) (hT P w k) (10 * SetTable.turns t.mask) (K - c) (stp t (hT P w k) c) (stp_dummy _ _ _) (by omega) (fun q hq => by rw [jj]; exact taken _ (by omega)) (by rw [jj, eK]; exact free) with ⟨q, i, hq, hi, he, before, pr⟩ | ⟨before, pr⟩
    · rw [jj] at hi pr
      rw [stp_add] at pr
      rw [show t.probe (fun i => (es[i]?.map (·.1)).getD 0) (hT P w k) (stp t (hT P w k) c) = some (.candidate (way t.mask (hT P w k) (c + q)) i (stp t (hT P w k) (c + (q + 1)))) from pr]
      dsimp only
      have il : i < L.length := by
        have z := (List.getElem?_eq_some_iff.mp hi).1
        have y := R.psize
        omega
      obtain ⟨p, hp⟩ : ∃ p, L[i]? = some p := ⟨L[i], List.getElem?_eq_getElem il⟩
      have pm : p ∈ L := List.mem_of_getElem? hp
      have live : t.slot (way t.mask (hT P w k) (c + q)) = .live i := slot_live R.tab.ris hi
      have rest : wpAny (model P w) A (searchRest a (.ref x) (hT P w k) true f es t (way t.mask (hT P w k) (c + q)) i (stp t (hT P w k) (c + (q + 1)))) Q E s := by
        unfold searchRest
        rw [R.at_ hp]
        dsimp only [entT]
        refine wpAny_bind (wpAny_holding (wpAny_eqBool_tuple hu (R.keys p pm) hx ?_))
        refine wpAny_bind (wpAny_setState_of ho hd R.fits ?_)
        dsimp only
        by_cases same : p.2 = k
        · exact wp_if_pos (by simp [same]) (wpAny_pure (yes (List.mem_map.mpr ⟨p, pm, same⟩)))
        · refine wp_if_neg (by simp [same]) ?_
          try refine wpAny_bind (wpAny_pure ?_)
          rw [sameMem]
          dsimp only
          simp only [if_true, live, R.at_ hp, entT]
          refine wpAny_bind (wpAny_isSame_ref_self (wpAny_bind (wpAny_pure ?_)))
          simp only [if_true]
          refine wp_if_neg (by simp [same]) ?_
          refine ih (c + (q + 1)) _ (by omega) (by omega) rfl fun i0 p0 h0 e0 => ?_
          obtain ⟨d, d1, d2, d3⟩ := left i0 p0 h0 e0
          refine ⟨d, ?_, d2, d3⟩
          by_cases z1 : d < c + q
          · refine absurd ((hh i0 p0 h0).trans (congrArg (hT P w) e0)) (before (d - c) i0 (by omega) ?_)
            rw [jj, show c + (d - c) = d by omega]
            exact d3
          · by_cases z2 : d = c + q
            · exfalso
              rw [z2] at d3
              have y := slot_live R.tab.ris d3
              rw [live] at y
              injection y with y
              rw [← y, hp] at h0
              cases h0
              exact same e0
            · omega
      by_cases hl : t.led = true
      · refine wp_if_neg (by simp [hl]) ?_
        try refine wpAny_bind (wpAny_pure ?_)
        exact rest
      · refine wp_if_pos (by simp [hl]) (wpAny_bind (unseen hx (fun y hy => ?_) ?_))
        · obtain ⟨e, he1, rfl⟩ := List.mem_map.mp hy
          have he2 : e ∈ es.toList := by
            have : e ∈ es ∧ e.1 = hT P w k := by simpa using he1
            simpa using this.1
          rw [R.ent] at he2
          obtain ⟨p2, hp2, rfl⟩ := List.mem_map.mp he2
          exact ⟨p2.2, p2.1, R.keys p2 hp2, rfl⟩
        · refine wp_if_neg (by decide) ?_
          try refine wpAny_bind (wpAny_pure ?_)
          exact rest
    · rw [jj, eK] at pr
      rw [show t.probe (fun i => (es[i]?.map (·.1)).getD 0) (hT P w k) (stp t (hT P w k) c) = some (.empty (way t.mask (hT P w k) K) none) from pr]
      dsimp only
      refine wpAny_pure (no fun hm => ?_)
      obtain ⟨p0, m0, e0⟩ := List.mem_map.mp hm
      obtain ⟨i0, h0⟩ := List.mem_iff_getElem?.mp m0
      obtain ⟨d, d1, d2, d3⟩ := left i0 p0 h0 e0
      refine before (d - c) i0 (by omega) ?_ ((hh i0 p0 h0).trans (congrArg (hT P w) e0))
      rw [jj, show c + (d - c) = d by omega]
      exact d3
/-- the search that an insertion makes -/
theorem StT.find (R : StT P w s.heap a L es ep t) {x : Addr} {k : List Key} (hx : TuK P w s.heap k x) (hu : A.units < cLine) {Q : SetFound → Shared → Prop} (yes : k ∈ L.map (·.2) → Q (.there none) s)
    (no : ∀ K, k ∉ L.map (·.2) → way t.mask (hT P w k) K ∉ t.place.toList → (∀ c, c < K → way t.mask (hT P w k) c ∈ t.place.toList) → Q (.free (way t.mask (hT P w k) K) false) s) :
    wpAny (model P w) A (setSearch a (.ref x) (hT P w k) true) Q E s := by
  have q := R.room
  obtain ⟨K, k1, k2, k3⟩ := R.tab.first (by rw [List.length_map]; omega) (hT P w k)
  have small : 10 * SetTable.turns t.mask ≤ 1420 := by
    unfold SetTable.turns
    rcases R.tab.mok with e | e | e <;> omega
  unfold setSearch
  refine R.search hx hu k1 k2 k3 yes (fun z => no K z k2 k3) 100000 0 none (Nat.zero_le _) (by omega) rfl fun i p hp e => ?_
  have hi : (L.map fun p => hT P w p.2)[i]? = some (hT P w k) := by rw [List.getElem?_map, hp, ← e]; rfl
  have il : i < t.place.toList.length := by
    rw [R.psize]
    exact (List.getElem?_eq_some_iff.mp hp).1
  obtain ⟨d, d1, d2⟩ := R.tab.before k2 hi (List.getElem?_eq_getElem il)
  exact ⟨d, Nat.zero_le _, d1, by rw [List.getElem?_eq_getElem il, d2]⟩
end
end MP

/-! sets of tuples of numbers and texts: an insertion -/
namespace MP
open PySem PySem.Spec PyProof.Rows L2
section
variable {P : Program} {w : World} {A : Around} {E : Value → Shared → Prop} {s : Shared} {a : Addr} {L : List (Addr × List Key)} {es : Array (Int × Value)} {ep : Nat} {t : SetTable}
theorem reorder {order : Array Nat} (he : es.toList = L.map (entT P w)) (hp : order.toList.Perm (List.range L.length)) :
    ∃ L2 : List (Addr × List Key), (order.filterMap (es[·]?)).toList = L2.map (entT P w) ∧ L2.Perm L ∧ (L2.map fun p => hT P w p.2) = order.toList.map fun i => (es.map (·.1)).getD i 0 := by
  have ge : ∀ i, es[i]? = (L[i]?).map (entT P w) := fun i => by rw [← Array.getElem?_toList, he, List.getElem?_map]
  refine ⟨order.toList.filterMap fun i => L[i]?, ?_, ?_, ?_⟩
  · rw [List.map_filterMap, Array.toList_filterMap]
    exact congrArg (fun f => List.filterMap f order.toList) (funext ge)
  · refine (hp.filterMap _).trans (List.Perm.of_eq ?_)
    have q := PySem.W.krv_all L.toArray
    simpa using q
  · have key : ∀ l : List Nat, (∀ i ∈ l, i < L.length) → ((l.filterMap fun i => L[i]?).map fun p => hT P w p.2) = l.map fun i => (es.map (·.1)).getD i 0 := by
      intro l
      induction l with
      | nil => exact fun _ => rfl
      | cons i l ih =>
        intro h
        have hi := h i List.mem_cons_self
        rw [List.filterMap_cons_some (List.getElem?_eq_getElem hi), List.map_cons, List.map_cons, ih fun j hj => h j (List.mem_cons_of_mem _ hj)]
        congr 1
        have e : (es.map (·.1))[i]? = some (hT P w (L[i]).2) := by
          rw [Array.getElem?_map, ge, List.getElem?_eq_getElem hi]
          rfl
        rw [Array.getD_eq_getD_getElem?, e]
        rfl
    exact key order.toList fun i hi => List.mem_range.mp (hp.mem_iff.mp hi)
theorem TuK.but {h h' : Heap} {k : List Key} {b : Addr} {o : Obj} (q : TuK P w h k b) (ho : h.get? a = some o) (hd : o.data = .set es ep t) (sb : Heap.SameBut a h h') : TuK P w h' k b := by
  obtain ⟨o1, its, n, h1, h2, h3, h4⟩ := q
  refine ⟨o1, its, n, (sb.2 b fun z => ?_).trans h1, h2, h3, h4⟩
  rw [z, ho] at h1
  cases h1
  rw [hd] at h3
  cases h3
/-- the table laid anew, wider -/
theorem relay_tuK {o : Obj} (ho : s.heap.get? a = some o) (hex : o.ExactSet) (hd : o.data = .set es ep t) (he : es.toList = L.map (entT P w)) (hdm : t.dummies = #[]) (hps : t.place.size = es.size) (hfl : es.size ≤ t.mask) (once : (L.map (·.2)).Nodup)
    (keys : ∀ p ∈ L, TuK P w s.heap p.2 p.1) (led : w.params.followText "set-order" = true ∨ t.led = true) (few : L.length < 64) {wanted M : Nat} (hM : MaskOk M) (hw : SetTable.sizeAbove wanted - 1 = M) (hw2 : SetTable.sizeAbove wanted ≤ 128)
    (room : L.length * 5 < M * 3) {Q : Unit → Shared → Prop} (q : ∀ h1 L1 es1 ep1 t1, Heap.SameBut a s.heap h1 → L1.Perm L → StT P w h1 a L1 es1 ep1 t1 → Q () { s with heap := h1 }) : wpAny (model P w) A (setRelay a wanted) Q E s := by
  have sz : es.size = L.length := by simpa using congrArg List.length he
  have fit : t.fits es.size = true := by
    unfold SetTable.fits SetTable.fill
    rw [hdm, Bool.and_eq_true, beq_iff_eq, decide_eq_true_eq]
    show t.place.size = es.size ∧ t.place.size + 0 ≤ t.mask
    omega
  obtain ⟨t1, order, r1, r2, r3, r4, r5, _, _⟩ := relaid_ok t (hs := es.map (·.1)) (wanted := wanted) hw hM (by rw [Array.size_map, sz]; omega)
  rw [Array.size_map, sz] at r2
  obtain ⟨L1, o1, o2, o3⟩ := reorder he r2
  rw [← o3] at r3
  have sz1 : (order.filterMap (es[·]?)).size = es.size := by
    have z := congrArg List.length o1
    rw [Array.length_toList, List.length_map, o2.length_eq] at z
    rw [z, sz]
  rw [setRelay_eq]
  refine wpAny_bind (wpAny_setState_of ho hd fit ?_)
  dsimp only
  refine wp_if_neg (by rw [sizeLine_eq]; omega) ?_
  try refine wpAny_bind (wpAny_pure ?_)
  rw [r1]
  dsimp only
  refine wpAny_bind (wp_if_neg (by rw [sz1]; simp) ?_)
  try refine wpAny_bind (wpAny_pure ?_)
  refine wpAny_pure ?_
  dsimp only
  have sb : Heap.SameBut a s.heap (s.heap.update a (Obj.putSet (order.filterMap (es[·]?)) t1)) := Heap.SameBut.update ..
  refine wpAny_storeSet_of ho hd (q _ L1 (order.filterMap (es[·]?)) (ep + 1) t1 sb o2 ?_) (by rw [sz1, sz, sizeLine_eq]; omega)
  exact ⟨⟨_, store_at ho hd, ⟨hex.1, hex.2.1, hex.2.2⟩, rfl⟩, o1, r3, (o2.map (·.2)).nodup_iff.mpr once, fun p hp => (keys p (o2.mem_iff.mp hp)).but ho hd sb, by rw [r5]; exact led, by rw [o2.length_eq, r4]; exact room, by rw [o2.length_eq]; exact few⟩
/-- k put in -/
theorem StT.add (R : StT P w s.heap a L es ep t) {x : Addr} {k : List Key} (hx : TuK P w s.heap k x) (hu : A.units < cLine) (few : L.length + 1 < 64) {Q : Bool → Shared → Prop}
    (q : ∀ b h1 L1 es1 ep1 t1, Heap.SameBut a s.heap h1 → StT P w h1 a L1 es1 ep1 t1 → (k ∈ L.map (·.2) ∧ L1 = L ∨ k ∉ L.map (·.2) ∧ L1.Perm ((x, k) :: L)) → Q b { s with heap := h1 }) :
    wpAny (model P w) A (setAddHashed a (.ref x) (hT P w k)) Q E s := by
  obtain ⟨o, ho, hex, hd⟩ := R.obj
  have sz := R.size
  have rm := R.room
  unfold setAddHashed
  refine wpAny_holding ?_
  rw [show (100000 : Nat) = 99999 + 1 from rfl, setAddHashedIn_succ]
  refine wpAny_bind (wpAny_setState_of ho hd R.fits ?_)
  dsimp only
  refine wp_if_neg (by simp [byScan, Value.scannable]) ?_
  try refine wpAny_bind (wpAny_pure ?_)
  refine wpAny_bind (R.find hx hu (fun z => ?_) fun K z k2 k3 => ?_)
  · dsimp only
    exact wpAny_pure (q false s.heap L es ep t (Heap.SameBut.refl a s.heap) R (.inl ⟨z, rfl⟩))
  · dsimp only
    refine wpAny_bind (wpAny_setState_of ho hd R.fits ?_)
    dsimp only
    obtain ⟨u1, u2, u3, u4, u5, u6, u7, u8, u9⟩ := R.tab.put k2 k3
    rw [List.length_map] at u9
    generalize t.put (way t.mask (hT P w k) K) = tp at u1 u3 u4 u5 u9 ⊢
    obtain ⟨t1, pl⟩ := tp
    dsimp only at u1 u3 u4 u5 u9 ⊢
    subst u1
    obtain ⟨L1, hL1⟩ : ∃ L1, L1 = L.take (SetTable.below t.place (way t.mask (hT P w k) K)) ++ (x, k) :: L.drop (SetTable.below t.place (way t.mask (hT P w k) K)) := ⟨_, rfl⟩
    have pm : L1.Perm ((x, k) :: L) := by rw [hL1]; exact put_perm L _ (x, k)
    have tb : TabOk t1 (L1.map fun p => hT P w p.2) := by
      rw [hL1, List.map_append, List.map_cons, List.map_take, List.map_drop]
      exact u3
    have en : (SetTable.insertAt es (SetTable.below t.place (way t.mask (hT P w k) K)) (hT P w k, Value.ref x)).toList = L1.map (entT P w) := by
      rw [SetTable.toList_insertAt, R.ent, hL1, List.map_append, List.map_cons, List.map_take, List.map_drop]
      rfl
    generalize SetTable.insertAt es (SetTable.below t.place (way t.mask (hT P w k) K)) (hT P w k, Value.ref x) = es1 at en ⊢
    have len : L1.length = L.length + 1 := pm.length_eq
    have sz1 : es1.size = L.length + 1 := by
      have y := congrArg List.length en
      rw [Array.length_toList, List.length_map, len] at y
      exact y
    have once1 : (L1.map (·.2)).Nodup := (pm.map (·.2)).nodup_iff.mpr (List.nodup_cons.mpr ⟨z, R.once⟩)
    -- whether it goes by value: of no matter
    have go : ∀ (c : Bool) (t2 : SetTable), (t2 = t1 ∨ t2 = { t1 with plain := false }) → wpAny (model P w) A (do
        storeSet a es1 t2
        if (!false && t2.tooFull) = true then setRelay a (SetTable.grown (es.size + 1))
        return true) Q E s := by
      intro c t2 ht2
      have m2 : t2.mask = t.mask ∧ t2.led = t.led ∧ t2.fill = L.length + 1 ∧ TabOk t2 (L1.map fun p => hT P w p.2) ∧ t2.dummies = #[] ∧ t2.place.size = L.length + 1 := by
        have ps : t1.place.size = L.length + 1 := by rw [tb.sz, List.length_map, len]
        rcases ht2 with rfl | rfl
        · exact ⟨u4, u5, u9, tb, tb.dm, ps⟩
        · exact ⟨u4, u5, u9, ⟨tb.ris, tb.dm, tb.sz, tb.mok, tb.bd, tb.reach⟩, tb.dm, ps⟩
      obtain ⟨m2, l2, f2, tb2, dm2, ps2⟩ := m2
      have sb : Heap.SameBut a s.heap (s.heap.update a (Obj.putSet es1 t2)) := Heap.SameBut.update ..
      have ho1 := store_at (es' := es1) (t' := t2) ho hd
      refine wpAny_bind (wpAny_storeSet_of ho hd ?_ (by rw [sz1, sizeLine_eq]; omega))
      have keys1 : ∀ p ∈ L1, TuK P w (s.heap.update a (Obj.putSet es1 t2)) p.2 p.1 := fun p hp => by
        rcases List.mem_cons.mp (pm.mem_iff.mp hp) with rfl | hp
        · exact hx.but ho hd sb
        · exact (R.keys p hp).but ho hd sb
      generalize s.heap.update a (Obj.putSet es1 t2) = h1 at sb ho1 keys1 ⊢
      have led2 : w.params.followText "set-order" = true ∨ t2.led = true := by rw [l2]; exact R.led
      have hex1 : ({ o with data := Data.set es1 (ep + 1) t2 } : Obj).ExactSet := ⟨hex.1, hex.2.1, hex.2.2⟩
      by_cases full : t2.tooFull = true
      · have fl : (L.length + 1) * 5 ≥ t.mask * 3 := by
          have y := full
          unfold SetTable.tooFull at y
          rw [decide_eq_true_eq, f2, m2] at y
          exact y
        have two : (t.mask = 7 ∧ L.length = 4) ∨ (t.mask = 31 ∧ L.length = 18) := by
          rcases R.tab.mok with e | e | e
          · exact .inl ⟨e, by omega⟩
          · exact .inr ⟨e, by omega⟩
          · omega
        have turn : ∀ M, MaskOk M → SetTable.sizeAbove (SetTable.grown (es.size + 1)) - 1 = M → SetTable.sizeAbove (SetTable.grown (es.size + 1)) ≤ 128 → (L.length + 1) * 5 < M * 3 → wpAny (model P w) A (setRelay a (SetTable.grown (es.size + 1))) (fun _ s' => wpAny (model P w) A (pure true) Q E s') E { s with heap := h1 } := fun M g1 g2 g3 g4 =>
          relay_tuK (s := { s with heap := h1 }) ho1 hex1 rfl en dm2 (by rw [ps2, sz1]) (by rw [sz1, m2]; rcases two with ⟨e, e2⟩ | ⟨e, e2⟩ <;> omega) once1 keys1 led2 (by rw [len]; exact few) g1 g2 g3 (by rw [len]; exact g4) fun h2 L2 es2 ep2 t3 sb2 pm2 R2 =>
            wpAny_pure (q true h2 L2 es2 ep2 t3 (sb.trans sb2) R2 (.inr ⟨z, pm2.trans pm⟩))
        first
          | (refine wpAny_bind ?_; refine wp_if_pos (by simp [full]) ?_)
          | (refine wp_if_pos (by simp [full]) ?_; refine wpAny_bind ?_)
        rcases two with ⟨_, e⟩ | ⟨_, e⟩
        · exact turn 31 (.inr (.inl rfl)) (by rw [sz, e, size_20]) (by rw [sz, e, size_20]; decide) (by omega)
        · exact turn 127 (.inr (.inr rfl)) (by rw [sz, e, size_76]) (by rw [sz, e, size_76]; decide) (by omega)
      · have nf : (L.length + 1) * 5 < t.mask * 3 := by
          have y := full
          unfold SetTable.tooFull at y
          rw [decide_eq_true_eq, f2, m2] at y
          omega
        first
          | refine wp_if_neg (by simp [full]) ?_
          | (refine wpAny_bind ?_; refine wp_if_neg (by simp [full]) ?_; refine wpAny_pure ?_)
        exact wpAny_pure (q true h1 L1 es1 (ep + 1) t2 sb ⟨⟨_, ho1, hex1, rfl⟩, en, tb2, once1, keys1, led2, by rw [len, m2]; exact nf, by rw [len]; exact few⟩ (.inr ⟨z, pm⟩))
    cases pln : t1.plain with
    | true =>
      first
        | (refine wpAny_bind ?_; refine wp_if_pos rfl ?_; refine value_tuK hx fun c => ?_)
        | refine wp_if_pos rfl (wpAny_bind (value_tuK hx fun c => ?_))
      cases c with
      | true => exact go true t1 (.inl rfl)
      | false => exact go true _ (.inr rfl)
    | false =>
      first
        | (refine wpAny_bind ?_; refine wp_if_neg Bool.false_ne_true ?_; refine wpAny_pure ?_)
        | refine wp_if_neg Bool.false_ne_true (wpAny_bind (wpAny_pure ?_))
      exact go true t1 (.inl rfl)
end
end MP

/-! set(pairs of texts), of a list, of a tuple; sorted and counted -/
namespace MP
open PySem PySem.Spec PyProof.Rows L2
/-- what stands in the set behind the first i pairs -/
structure Met (ks : List (Addr × List Key)) (i : Nat) (L : List (Addr × List Key)) : Prop where
  old : ∀ p ∈ L, p ∈ ks.take i
  new : ∀ p ∈ ks.take i, p.2 ∈ L.map (·.2)
  len : L.length ≤ i
section
variable {P : Program} {w : World} {A : Around} {R : Result → Shared → Prop} {E : Value → Shared → Prop} {s : Shared}
theorem TuK.keep {h h' : Heap} {k : List Key} {b : Addr} (q : TuK P w h k b) (e : ∀ c o, h.get? c = some o → h'.get? c = some o) : TuK P w h' k b := by
  obtain ⟨o, its, n, ho, r⟩ := q
  exact ⟨o, its, n, e b o ho, r⟩
theorem StT.keep {h h' : Heap} {a : Addr} {L : List (Addr × List Key)} {es : Array (Int × Value)} {ep : Nat} {t : SetTable} (q : StT P w h a L es ep t) (ha : ∀ o, h.get? a = some o → h'.get? a = some o) (hk : ∀ p ∈ L, TuK P w h' p.2 p.1) : StT P w h' a L es ep t := by
  obtain ⟨o, ho, r⟩ := q.obj
  exact ⟨⟨o, ha o ho, r⟩, q.ent, q.tab, q.once, hk, q.led, q.room, q.few⟩
theorem stT_fresh {h : Heap} {a : Addr} (ho : h.get? a = some { cls := .type "set", dict := none, data := .set #[] 0 (.fresh 0 0 (!w.params.followText "set-order")) }) : StT P w h a [] #[] 0 (.fresh 0 0 (!w.params.followText "set-order")) where
  obj := ⟨_, ho, ⟨rfl, rfl, rfl⟩, rfl⟩
  ent := rfl
  tab := ⟨List.Pairwise.nil, rfl, rfl, .inl rfl, fun x hx => (nomatch hx), fun i h j hi => (by simp at hi)⟩
  once := .nil
  keys := fun p hp => nomatch hp
  led := by
    show _ ∨ (!w.params.followText "set-order") = true
    cases w.params.followText "set-order"
    · exact .inr rfl
    · exact .inl rfl
  room := (by decide : 0 * 5 < 7 * 3)
  few := (by decide : 0 < 64)
theorem loopT {It : Addr} {fp wr : List Addr} {G : Array GenState → Array GenState → Prop} {n : Nat} {Pv : Nat → Value → Prop} {St : Nat → Shared → Prop} (W : WalksS P w A.in1 It fp wr G n Pv St) (a : Addr) (ha : a ∉ fp) (ks : List (Addr × List Key)) (hn : ks.length = n) (hz : n < 64) (hu : A.in1.units < cLine)
    (hv : ∀ i v, Pv i v → ∃ p, ks[i]? = some p ∧ v = .ref p.1) (h0 : Heap) (hk : ∀ p ∈ ks, TuK P w h0 p.2 p.1) (ha0 : h0.get? a = none) (hw0 : ∀ b ∈ wr, h0.get? b = none) :
    ∀ (k i : Nat) (s : Shared), n - i = k → i ≤ n → St i s → (∀ b o, h0.get? b = some o → s.heap.get? b = some o) → (∃ L es ep t, StT P w s.heap a L es ep t ∧ Met ks i L) →
      (∀ s', Moved (a :: wr) G s s' → (∀ b o, h0.get? b = some o → s'.heap.get? b = some o) → (∃ L es ep t, StT P w s'.heap a L es ep t ∧ Met ks n L) → R (.ok (.ret .none)) s') →
      codeAny (model P w) A (.builtin "set.update.loop" ⟨[.ref a, .ref It], []⟩) R s := by
  have naw : a ∉ wr := fun z => ha (W.sub _ z)
  have sub : ∀ b ∈ wr, b ∈ a :: wr := fun b hb => List.mem_cons_of_mem _ hb
  have go : ∀ {s s' : Shared}, Moved wr G s s' → (∀ b o, h0.get? b = some o → s.heap.get? b = some o) → ∀ b o, h0.get? b = some o → s'.heap.get? b = some o := fun mv q b o e => mv.heap b o (fun z => by rw [hw0 b z] at e; cases e) (q b o e)
  intro k
  induction k with
  | zero =>
    intro i s e0 hi st q0 ⟨L, es, ep, t, hS, g⟩ hR
    obtain rfl : i = n := by omega
    refine codeAny_builtin PyProof.Rows.F.entry_set_update_loop ?_
    rw [Around.under_plainId PyProof.Rows.F.plain_set_update_loop _]
    show wpAny _ A.in1 (pyNext (.ref It) >>= _) _ _ s
    refine wpAny_bind (W.done s _ _ st fun s' mv => ?_)
    have q1 := go mv q0
    exact wpAny_pure (hR s' (mv.mono sub) q1 ⟨L, es, ep, t, hS.keep (fun o e => mv.heap a _ naw e) fun p hp => (hk p (List.mem_of_mem_take (g.old p hp))).keep q1, g⟩)
  | succ k ih =>
    intro i s e0 hi st q0 ⟨L, es, ep, t, hS, g⟩ hR
    have lt : i < n := by omega
    refine codeAny_builtin PyProof.Rows.F.entry_set_update_loop ?_
    rw [Around.under_plainId PyProof.Rows.F.plain_set_update_loop _]
    show wpAny _ A.in1 (pyNext (.ref It) >>= _) _ _ s
    refine wpAny_bind (W.item i s _ _ lt st fun v s' pv st' mv => ?_)
    obtain ⟨p, hp, rfl⟩ := hv i v pv
    have q1 := go mv q0
    have hS1 := hS.keep (h' := s'.heap) (fun o e => mv.heap a _ naw e) fun p hp => (hk p (List.mem_of_mem_take (g.old p hp))).keep q1
    have hx : TuK P w s'.heap p.2 p.1 := (hk p (List.mem_of_getElem? hp)).keep q1
    show wpAny _ A.in1 (holding [Value.ref p.1] (setAdd a (.ref p.1)) >>= _) _ _ s'
    refine wpAny_bind (wpAny_holding ?_)
    unfold setAdd
    refine wpAny_holding (wpAny_bind (wpAny_pyHash_tuple hu hx ?_))
    have gl := g.len
    refine StT.add (s := { s' with toks := s'.toks + (p.2.length + 1) }) hS1 hx hu (by omega) fun b h1 L1 es1 ep1 t1 hb hS2 hc => ?_
    have tk : ks.take (i + 1) = ks.take i ++ [p] := by rw [List.take_add_one, hp]; rfl
    have g1 : Met ks (i + 1) L1 := by
      rcases hc with ⟨hm, rfl⟩ | ⟨hm, pm⟩
      · refine ⟨fun x hx => ?_, fun x hx => ?_, by omega⟩
        · rw [tk]; exact List.mem_append_left _ (g.old x hx)
        · rw [tk] at hx
          rcases List.mem_append.mp hx with hx | hx
          · exact g.new x hx
          · rw [List.mem_singleton.mp hx]; exact hm
      · refine ⟨fun x hx => ?_, fun x hx => ?_, by rw [pm.length_eq, List.length_cons]; omega⟩
        · rw [tk]
          rcases List.mem_cons.mp (pm.mem_iff.mp hx) with rfl | hx
          · exact List.mem_append_right _ (List.mem_singleton.mpr rfl)
          · exact List.mem_append_left _ (g.old x hx)
        · rw [(pm.map (·.2)).mem_iff]
          rw [tk] at hx
          rcases List.mem_append.mp hx with hx | hx
          · exact List.mem_cons_of_mem _ (g.new x hx)
          · rw [List.mem_singleton.mp hx]; exact List.mem_cons_self
    have q2 : ∀ b o, h0.get? b = some o → h1.get? b = some o := fun b o e => (hb.2 b fun z => by rw [z, ha0] at e; cases e).trans (q1 b o e)
    refine wpAny_pure ⟨plainId_quiet PyProof.Rows.F.plain_set_update_loop _, ih (i + 1) _ (by omega) lt (W.frame _ s' _ _ st' (Nat.le_add_right _ _) fun b hb' o e => ?_) q2 ⟨L1, es1, ep1, t1, hS2, g1⟩ fun s'' mv2 q3 hS4 => ?_⟩
    · rw [hb.2 b fun z : b = a => ha (by rw [← z]; exact hb')]; exact e
    · refine hR s'' (Moved.trans W.gtrans ((mv.mono sub).then_heap (Nat.le_add_right _ _) fun b o hb' e => ?_) mv2) q3 hS4
      rw [hb.2 b fun z : b = a => hb' (by rw [z]; exact List.mem_cons_self)]; exact e
end
end MP

namespace MP
open PySem PySem.Spec PyProof.Rows L2
section
variable {P : Program} {w : World} {A : Around} {R : Result → Shared → Prop} {E : Value → Shared → Prop} {s : Shared}
set_option maxHeartbeats 3200000 in
theorem set_pairs_tuple {l : Addr} {vs : Array Value} {ks : List (Addr × List Key)} {Q : Value → Shared → Prop} (hd : A.handled = none) (hu : A.units + 3 < cLine) (hl : s.heap.IsTuple l vs) (hx : vs.toList = ks.map fun p => Value.ref p.1) (hk : ∀ p ∈ ks, TuK P w s.heap p.2 p.1) (hz : ks.length < 64)
    (q : ∀ (h' : Heap) (tk : Nat), (∃ L es ep t, StT P w h' s.heap.objs.size L es ep t ∧ Met ks ks.length L) → (∀ b o, s.heap.get? b = some o → h'.get? b = some o) → Q (.ref s.heap.objs.size) { s with heap := h', toks := tk }) :
    wpAny (model P w) A (call (.type "set") [.ref l]) Q E s := by
  have vz : vs.size = ks.length := by
    have e := congrArg List.length hx
    rw [Array.length_toList, List.length_map] at e
    exact e
  obtain ⟨c, tl, mro⟩ := PySem.F.called_set.mro
  have f1 := PySem.F.called_set.made
  have f2 := PySem.F.called_set.sub
  have f3 := PySem.F.called_set.notType
  have f4 := PySem.F.called_set.canCreate
  have f5 := PySem.F.typeCall_set_1 (.ref l)
  refine wpAny_call (codeAny_of_tree ?_)
  show wpAny _ _ (callAny (.type "set") _) _ _ _
  refine wpAny_pure ⟨Code.quiet_builtin _ (by decide +kernel), codeAny_builtin PySem.F.entry_type_call ?_⟩
  rw [Around.under_plain (weight_type_call_type "set" [.ref l] []) rfl]
  repeat (any_goals (first | assumption | wp_step))
  refine codeAny_mono (code_set_led1 (.ref l) (E := E) (Q₁ := fun u s1 => u = .ref s.heap.objs.size ∧ s1 = { s with heap := s.heap.push { cls := .type "set", dict := none, data := .set #[] 0 (.fresh 0 0 (!w.params.followText "set-order")) } }) ⟨rfl, rfl⟩) fun r s1 hr => ?_
  rcases r with e | (_ | _ | _ | u)
  · exact hr
  · exact hr.elim
  · exact hr.elim
  · exact hr.elim
  obtain ⟨rfl, rfl⟩ := hr
  have fresh : ∀ h', h'.get? s.heap.objs.size = some { cls := .type "set", dict := none, data := .set #[] 0 (.fresh 0 0 (!w.params.followText "set-order")) } → StT P w h' s.heap.objs.size [] #[] 0 (.fresh 0 0 (!w.params.followText "set-order")) := fun h' e => stT_fresh e
  generalize (!w.params.followText "set-order") = led at fresh ⊢
  have at0 : (s.heap.push { cls := .type "set", dict := none, data := .set #[] 0 (.fresh 0 0 led) }).get? s.heap.objs.size = some { cls := .type "set", dict := none, data := .set #[] 0 (.fresh 0 0 led) } := Heap.get?_push_size _ rfl
  have ty0 : Shared.TypeIs { s with heap := s.heap.push { cls := .type "set", dict := none, data := .set #[] 0 (.fresh 0 0 led) } } (.ref s.heap.objs.size) "set" := ⟨_, at0, rfl⟩
  have g1 := PySem.F.called_set.init.lookup
  have g2 := PySem.F.called_set.init.bind (.ref s.heap.objs.size)
  repeat (any_goals (first | assumption | wp_step))
  refine codeAny_mono (codeAny_call_builtin (R := wants (fun r s2 => r = .none ∧ ∃ h' tk, s2 = { s with heap := h', toks := tk } ∧ (∃ L es ep t, StT P w h' s.heap.objs.size L es ep t ∧ Met ks ks.length L) ∧ (∀ b o, s.heap.get? b = some o → h'.get? b = some o)) E) PySem.F.called_set.init.plain PySem.F.entry_set_init (check_set_init_1 ty0 ?_)) fun r2 s2 hr2 => ?_
  · obtain ⟨⟨lc, ld, lda, lsl⟩, el, ec, ln, ed⟩ := hl
    simp only at ec ed
    subst ec
    subst ed
    have hlt : l < s.heap.objs.size := Heap.lt_size el
    have el2 : (s.heap.push { cls := .type "set", dict := none, data := .set #[] 0 (.fresh 0 0 led) }).get? l = some { cls := .type "tuple", dict := ld, data := .seq vs ln, slots := lsl } := Heap.get?_push_of_some _ el
    have hl1 : (s.heap.push { cls := .type "set", dict := none, data := .set #[] 0 (.fresh 0 0 led) }).IsTuple l vs := ⟨_, el2, rfl, ln, rfl⟩
    have k1 := PySem.F.sub_tuple_set
    have k2 := PySem.F.sub_tuple_frozenset
    have k3 : (Value.type "tuple" == Value.type "dict") = false := by decide
    unfold Builtin.«set.__init__» noKeywords Builtin.Frozenset.updateFrom
    generalize hPI : pyIter = PI
    wp_walk
    subst hPI
    refine wpAny_pyIter_tuple hl1 (wpAny_bind (wpAny_runValue ?_))
    have hh3 : A.in1.in1.in1.handled = none := by simp [hd]
    have n1 : l ≠ (s.heap.push { cls := .type "set", dict := none, data := .set #[] 0 (.fresh 0 0 led) }).objs.size := by
      rw [Heap.size_push]; exact Nat.ne_of_lt (Nat.lt_succ_of_lt hlt)
    have n2 : s.heap.objs.size ∉ [(s.heap.push { cls := .type "set", dict := none, data := .set #[] 0 (.fresh 0 0 led) }).objs.size, l] := by
      rw [Heap.size_push]
      simp only [List.mem_cons, List.not_mem_nil, or_false, not_or]
      exact ⟨Nat.ne_of_lt (Nat.lt_succ_self _), Nat.ne_of_gt hlt⟩
    have out : ∀ b, s.heap.objs.size ≤ b → s.heap.get? b = none := fun b hb => by
      cases z : s.heap.get? b with
      | none => rfl
      | some o => exact (Nat.not_lt.mpr hb (Heap.lt_size z)).elim
    refine loopT ((Walks.tuple hh3 _ l n1 vs).toS) s.heap.objs.size n2 ks vz.symm (by omega) hu (fun i v hv => ?_) s.heap hk (out _ (Nat.le_refl _)) (fun b hb => out b ?_) (vs.size - 0) 0 _ (by omega) (Nat.zero_le _) ⟨⟨_, Heap.get?_push_size _ rfl, rfl, rfl⟩, (hl1.push _)⟩ (fun b o e => Heap.get?_push_of_some _ (Heap.get?_push_of_some _ e)) ?_ fun s' mv q1 hS => ?_
    · have y : vs.toList[i]? = some v := by rw [Array.getElem?_toList]; exact hv
      rw [hx, List.getElem?_map] at y
      cases z : ks[i]? with
      | none => rw [z] at y; cases y
      | some p => rw [z] at y; cases y; exact ⟨p, rfl, rfl⟩
    · have : b = (s.heap.push { cls := .type "set", dict := none, data := .set #[] 0 (.fresh 0 0 led) }).objs.size := by simpa using hb
      rw [this, Heap.size_push]
      exact Nat.le_succ _
    · exact ⟨[], #[], 0, _, fresh _ (Heap.get?_push_of_some _ at0), ⟨fun p hp => (nomatch hp), fun p hp => by simp at hp, Nat.le_refl _⟩⟩
    · obtain ⟨h', g', d', tk', os'⟩ := s'
      have e1 : g' = s.gens := mv.gens
      have e2 : d' = s.drawn := mv.drawn
      have e3 : os' = s.os := mv.os
      subst e1
      subst e2
      subst e3
      show wpAny _ _ _ _ _ _
      refine wpAny_pure ?_
      show wpAny _ _ (ret Value.none) _ _ _
      rw [vz] at hS
      exact wpAny_pure ⟨rfl, h', tk', rfl, hS, q1⟩
  · rcases r2 with e | (_ | _ | _ | u)
    · exact hr2
    · exact hr2.elim
    · exact hr2.elim
    · exact hr2.elim
    obtain ⟨rfl, h', tk, rfl, hS, hk'⟩ := hr2
    repeat (any_goals (first | assumption | wp_step))
    exact q _ _ hS hk'
end
end MP

/-! sorted(set(a tuple of pairs of texts)) as an expression -/
namespace MP
open PySem PySem.Spec PyProof.Rows L2
abbrev PS := Str × Str
def pdD (p : PS) : D := .tup [.str p.1, .str p.2]
def psOf : List D → Option (List PS)
  | [] => some []
  | .tup [.str a, .str b] :: r => (psOf r).map fun q => (a, b) :: q
  | _ => none
theorem psOf_eq : ∀ {xs : List D} {ps : List PS}, psOf xs = some ps → xs = ps.map pdD
  | [], ps, h => by simp only [psOf] at h; cases h; rfl
  | x :: r, ps, h => by
    unfold psOf at h
    split at h
    · cases ‹_ :: _ = []›
    · rename_i a b r' e
      cases e
      cases q : psOf r with
      | none => rw [q] at h; cases h
      | some q' => rw [q] at h; cases h; rw [psOf_eq q]; rfl
    · cases h
theorem psOf_map : ∀ ps : List PS, psOf (ps.map pdD) = some ps
  | [] => rfl
  | (a, b) :: ps => by
    show (psOf (ps.map pdD)).map _ = _
    rw [psOf_map ps]
    rfl
def kkP (p : PS) : List Key := [.inr p.1, .inr p.2]
theorem kkP_inj {p q : PS} (h : kkP p = kkP q) : p = q := by
  obtain ⟨a, b⟩ := p
  obtain ⟨c, d⟩ := q
  unfold kkP at h
  injection h with h1 h2
  injection h2 with h2 _
  injection h1 with h1
  injection h2 with h2
  exact Prod.ext h1 h2
def nubP : List PS → List PS
  | [] => []
  | x :: r => if x ∈ r then nubP r else x :: nubP r
theorem mem_nubP {k : PS} : ∀ {ys : List PS}, k ∈ nubP ys ↔ k ∈ ys
  | [] => Iff.rfl
  | x :: r => by
    unfold nubP
    split
    · rename_i h
      rw [mem_nubP (ys := r), List.mem_cons]
      exact ⟨.inr, fun z => z.elim (fun e => e ▸ h) id⟩
    · rw [List.mem_cons, List.mem_cons, mem_nubP (ys := r)]
theorem nodup_nubP : ∀ ys : List PS, (nubP ys).Nodup
  | [] => .nil
  | x :: r => by
    unfold nubP
    split
    · exact nodup_nubP r
    · rename_i h
      exact List.nodup_cons.mpr ⟨fun z => h (mem_nubP.mp z), nodup_nubP r⟩
theorem len_nubP : ∀ ys : List PS, (nubP ys).length ≤ ys.length
  | [] => Nat.le_refl _
  | x :: r => by
    have := len_nubP r
    unfold nubP
    split
    · rw [List.length_cons]; omega
    · rw [List.length_cons, List.length_cons]; omega
/-- p not behind q -/
def leP (p q : PS) : Bool := !ltP q.1 q.2 p.1 p.2
def srtP (ps : List PS) : List PS := (nubP ps).mergeSort leP
theorem lt_tri {a b : Str} (h : a ≠ b) : a.cps.toList < b.cps.toList ∨ b.cps.toList < a.cps.toList := by
  by_cases q : a.cps.toList < b.cps.toList
  · exact .inl q
  · refine .inr ?_
    rcases List.le_total a.cps.toList b.cps.toList with z | z
    · exact absurd (Str.ext' (Array.toList_inj.mp (List.le_antisymm z (List.not_lt.mp q)))) h
    · refine Classical.byContradiction fun y => ?_
      exact h (Str.ext' (Array.toList_inj.mp (List.le_antisymm (List.not_lt.mp y) z)))
/-- q before p, in words -/
theorem ltP_iff {a b c d : Str} : ltP a b c d = true ↔ (a ≠ c ∧ a.cps.toList < c.cps.toList) ∨ (a = c ∧ b ≠ d ∧ b.cps.toList < d.cps.toList) := by
  unfold ltP
  by_cases h1 : a = c
  · rw [if_pos h1]
    by_cases h2 : b = d
    · rw [if_pos h2]
      simp [h1, h2]
    · rw [if_neg h2, decide_eq_true_eq]
      simp [h1, h2]
  · rw [if_neg h1, decide_eq_true_eq]
    simp [h1]
theorem ltP_tri {p q : PS} (h : p ≠ q) : ltP p.1 p.2 q.1 q.2 = true ∨ ltP q.1 q.2 p.1 p.2 = true := by
  by_cases h1 : p.1 = q.1
  · have h2 : p.2 ≠ q.2 := fun z => h (Prod.ext h1 z)
    rcases lt_tri h2 with z | z
    · exact .inl (ltP_iff.mpr (.inr ⟨h1, h2, z⟩))
    · exact .inr (ltP_iff.mpr (.inr ⟨h1.symm, Ne.symm h2, z⟩))
  · rcases lt_tri h1 with z | z
    · exact .inl (ltP_iff.mpr (.inl ⟨h1, z⟩))
    · exact .inr (ltP_iff.mpr (.inl ⟨Ne.symm h1, z⟩))
theorem ltP_asymm {p q : PS} (h : ltP p.1 p.2 q.1 q.2 = true) : ltP q.1 q.2 p.1 p.2 = false := by
  cases z : ltP q.1 q.2 p.1 p.2 with
  | false => rfl
  | true =>
    rcases ltP_iff.mp h with ⟨a1, a2⟩ | ⟨a1, a2, a3⟩
    · rcases ltP_iff.mp z with ⟨b1, b2⟩ | ⟨b1, _⟩
      · exact absurd b2 (List.lt_asymm a2)
      · exact absurd b1.symm a1
    · rcases ltP_iff.mp z with ⟨b1, _⟩ | ⟨b1, b2, b3⟩
      · exact absurd a1.symm b1
      · exact absurd b3 (List.lt_asymm a3)
theorem ltP_trans {p q r : PS} (h : ltP p.1 p.2 q.1 q.2 = true) (h' : ltP q.1 q.2 r.1 r.2 = true) : ltP p.1 p.2 r.1 r.2 = true := by
  rcases ltP_iff.mp h with ⟨a1, a2⟩ | ⟨a1, a2, a3⟩ <;> rcases ltP_iff.mp h' with ⟨b1, b2⟩ | ⟨b1, b2, b3⟩
  · have z := List.lt_trans a2 b2
    exact ltP_iff.mpr (.inl ⟨fun e => by rw [e] at z; exact List.lt_irrefl _ z, z⟩)
  · exact ltP_iff.mpr (.inl ⟨fun e => a1 (e.trans b1.symm), b1 ▸ a2⟩)
  · exact ltP_iff.mpr (.inl ⟨fun e => b1 (a1.symm.trans e), a1 ▸ b2⟩)
  · have z := List.lt_trans a3 b3
    exact ltP_iff.mpr (.inr ⟨a1.trans b1, fun e => by rw [e] at z; exact List.lt_irrefl _ z, z⟩)
theorem leP_iff {p q : PS} : leP p q = true ↔ p = q ∨ ltP p.1 p.2 q.1 q.2 = true := by
  unfold leP
  rw [Bool.not_eq_true']
  constructor
  · intro h
    by_cases e : p = q
    · exact .inl e
    · rcases ltP_tri e with z | z
      · exact .inr z
      · rw [h] at z; cases z
  · rintro (rfl | h)
    · cases z : ltP p.1 p.2 p.1 p.2 with
      | false => rfl
      | true =>
        have := ltP_asymm z
        rw [z] at this
        cases this
    · exact ltP_asymm h
theorem leP_trans (p q r : PS) (h : leP p q = true) (h' : leP q r = true) : leP p r = true := by
  rcases leP_iff.mp h with rfl | h
  · exact h'
  · rcases leP_iff.mp h' with rfl | h'
    · exact leP_iff.mpr (.inr h)
    · exact leP_iff.mpr (.inr (ltP_trans h h'))
theorem leP_total (p q : PS) : (leP p q || leP q p) = true := by
  rw [Bool.or_eq_true]
  by_cases e : p = q
  · exact .inl (leP_iff.mpr (.inl e))
  · exact (ltP_tri e).imp (fun z => leP_iff.mpr (.inr z)) fun z => leP_iff.mpr (.inr z)
theorem leP_anti (p q : PS) (h : leP p q = true) (h' : leP q p = true) : p = q := by
  rcases leP_iff.mp h with e | z
  · exact e
  · rcases leP_iff.mp h' with e | y
    · exact e.symm
    · have := ltP_asymm z
      rw [y] at this
      cases this
theorem srtP_of {ns ps : List PS} (h1 : ns.Pairwise fun x y => leP x y = true) (h2 : ns.Nodup) (h3 : ∀ k, k ∈ ns ↔ k ∈ ps) : ns = srtP ps :=
  PySem.W.Srt.the_of_perm leP (fun a b c => leP_trans a b c) leP_total leP_anti ((List.perm_ext_iff_of_nodup h2 (nodup_nubP ps)).mpr fun k => (h3 k).trans mem_nubP.symm) h1
def encP (p : PS) : PyData := .tuple [.str p.1, .str p.2]
theorem le_encP : PySem.W.dataLe false encP = leP := by
  funext p q
  show (!PySem.W.dataLt (.tuple [.str q.1, .str q.2]) (.tuple [.str p.1, .str p.2])) = leP p q
  rw [PySem.W.dataLt_pair (by simp [PySem.W.alike]) (by simp [PySem.W.alike]), PySem.W.dataLt_str, PySem.W.dataLt_str]
  unfold leP ltP
  simp only [PyData.eqv, beq_iff_eq]
theorem perm_map {α β : Type} {f : α → β} : ∀ {us vs : List β}, us.Perm vs → ∀ L : List α, us = L.map f → ∃ L1 : List α, L1.Perm L ∧ vs = L1.map f
  | _, _, .nil, L, h => ⟨L, .refl _, h⟩
  | _, _, .cons x p, L, h => by
    cases L with
    | nil => cases h
    | cons y L =>
      injection h with h1 h2
      obtain ⟨L1, a, b⟩ := perm_map p L h2
      exact ⟨y :: L1, a.cons y, by rw [h1, b]; rfl⟩
  | _, _, .swap x y l, L, h => by
    cases L with
    | nil => cases h
    | cons a L =>
      cases L with
      | nil => cases h
      | cons b L =>
        injection h with h1 h2
        injection h2 with h2 h3
        exact ⟨b :: a :: L, .swap a b L, by rw [h1, h2, h3]; rfl⟩
  | _, _, .trans p q, L, h => by
    obtain ⟨L1, a, b⟩ := perm_map p L h
    obtain ⟨L2, c, d⟩ := perm_map q L1 b
    exact ⟨L2, c.trans a, d⟩
theorem image {α β : Type} {f : α → β} {ks : List α} : ∀ L : List β, (∀ p ∈ L, ∃ q ∈ ks, p = f q) → ∃ L0 : List α, L = L0.map f ∧ ∀ q ∈ L0, q ∈ ks
  | [], _ => ⟨[], rfl, fun q hq => nomatch hq⟩
  | p :: L, h => by
    obtain ⟨q, hq, rfl⟩ := h p List.mem_cons_self
    obtain ⟨L0, e, hL⟩ := image L fun x hx => h x (List.mem_cons_of_mem _ hx)
    refine ⟨q :: L0, by rw [e]; rfl, fun x hx => ?_⟩
    rcases List.mem_cons.mp hx with rfl | hx
    · exact hq
    · exact hL x hx
section
variable {K : PySem.W.Frag} {m : List Addr} {H : Hp}
theorem vrs_ps : ∀ {ps : List PS} {vs : List V}, VRs K m H vs (ps.map pdD) → ∃ ks : List (Addr × PS), vs = ks.map (fun q => V.ref q.1) ∧ ks.map (·.2) = ps ∧ ∀ q ∈ ks, H q.1 = some (.tup [.str q.2.1, .str q.2.2])
  | [], _, .nil => ⟨[], rfl, rfl, fun q hq => nomatch hq⟩
  | p :: ps, _, .cons h r => by
    obtain ⟨ks, e1, e2, e3⟩ := vrs_ps r
    cases h with
    | @tup a us _ ha ra =>
      obtain ⟨x, y, rfl, rx, ry⟩ := ra.two
      cases rx
      cases ry
      refine ⟨(a, p) :: ks, by rw [e1]; rfl, by rw [List.map_cons, e2], fun q hq => ?_⟩
      rcases List.mem_cons.mp hq with rfl | hq
      · exact ha
      · exact e3 q hq
end
/-- sorted(set(a tuple of pairs of texts)) -/
def gSortSetP : GC := fun _ ds => match ds with
  | [.tup xs] => match psOf xs with
    | some ps => if ps.length < 64 then some (.lst ((srtP ps).map pdD)) else none
    | none => none
  | _ => none
theorem pel_sortSetP {X : Cx} {a : Expr} {t : LA} {p p2 q pos : Pos} (hc : X.calm = true) (hu : X.A.units + 64 < cLine) (hg : Gl X "sorted") (hm : X.mg "sorted" = none) (hg2 : Gl X "set") (hm2 : X.mg "set" = none) (ha : PAL X [a] t)
    (na : starEach [a] X.env = (false, eval a X.env) :: starEach [] X.env := by rfl) : PEL X (.Call (.Name "sorted" p) [.Call (.Name "set" p2) [a] [] q] [] pos) (lCallB gSortSetP t) := by
  refine ⟨fun pins s σ H m ρ S I x r hp => ?_⟩
  refine Call_ (ld_blt I hg hm (u := .builtin "sorted") (by decide +kernel) ?_)
  refine PyProof.Rows.callWith_builtin1 (PyProof.Rows.args_cons ?_ rfl) rfl rfl
  refine Call_ (ld_blt I hg2 hm2 boot_set ?_)
  refine PyProof.Rows.callWith_type1 (run_seqA ha I x r hp fun ds S1 q1 vs us s1 H1 m1 I1 rv e1 x1 w1 r1 hp1 => ?_) na rfl
  obtain ⟨d, q2⟩ := lift_ok hp1
  have e0 : lCallB gSortSetP t ρ S = .ok d S1 := by unfold lCallB; rw [q1, bind_ok, q2]; rfl
  rw [e0]
  unfold gSortSetP at q2
  split at q2
  · rename_i xs
    split at q2
    · rename_i ps hps
      split at q2
      · rename_i hz
        cases q2
        obtain ⟨v, rfl, w⟩ := w1.one
        have he := psOf_eq hps
        subst he
        cases w with
        | @tup b ws _ h1 r2 =>
          obtain ⟨ks, rfl, k2, k3⟩ := vrs_ps r2
          rw [Vals.ref1 rv]
          obtain ⟨its, rv2, pl, hz2⟩ := I1.tuple (SqT.of h1)
          have hmm : (ks.map fun q => V.ref q.1) = (ks.map (·.1)).map V.ref := by rw [List.map_map]; rfl
          rw [hmm] at rv2
          have hits := refs_at rv2
          have hkl : ks.length = ps.length := by rw [← k2, List.length_map]
          have hA1 := I1.ok.hd hc
          refine set_pairs_tuple (ks := ks.map fun q => (q.1, kkP q.2)) hA1 (by omega) (show s1.heap.IsTuple b its.toArray from pl) (by rw [hits, List.map_map, List.map_map]; simp) (fun p hp => ?_) (by rw [List.length_map, hkl]; exact hz) fun h' tk ⟨L, es, ep, tb, hS, hM⟩ hk => ?_
          · obtain ⟨q, hq, rfl⟩ := List.mem_map.mp hp
            exact key_of (ks := kkP q.2) I1.hok (k3 q hq)
          refine PyProof.Rows.args_nil ?_
          have I2 : Inv X pins σ H1 { s1 with heap := h', toks := tk } := I1.kept fun b o e => hk b o e
          have hMall : ∀ y : Addr × List Key, y ∈ (ks.map fun q => (q.1, kkP q.2)).take (ks.map fun q => (q.1, kkP q.2)).length ↔ y ∈ ks.map fun q => (q.1, kkP q.2) := fun y => by rw [List.take_length]
          obtain ⟨L0, rfl, hL0⟩ := image (f := fun q : Addr × PS => (q.1, kkP q.2)) (ks := ks) L fun p hp => by
            obtain ⟨q, hq, e⟩ := List.mem_map.mp ((hMall p).mp (hM.old p hp))
            exact ⟨q, hq, e.symm⟩
          have once : (L0.map (·.2)).Nodup := by
            have z := hS.once
            rw [List.map_map] at z
            have y : (L0.map (·.2)).map kkP = L0.map ((fun x => x.2) ∘ fun q : Addr × PS => (q.1, kkP q.2)) := by rw [List.map_map]; rfl
            rw [← y] at z
            exact List.Pairwise.of_map kkP (fun _ _ hne e => hne (congrArg kkP e)) z
          have same : ∀ k, k ∈ L0.map (·.2) ↔ k ∈ ps := fun k => by
            rw [← k2]
            constructor
            · intro hk'
              obtain ⟨q, hq, rfl⟩ := List.mem_map.mp hk'
              exact List.mem_map_of_mem (hL0 q hq)
            · intro hk'
              obtain ⟨q, hq, rfl⟩ := List.mem_map.mp hk'
              have z := hM.new (q.1, kkP q.2) ((hMall _).mpr (List.mem_map_of_mem (f := fun q : Addr × PS => (q.1, kkP q.2)) hq))
              rw [List.map_map] at z
              obtain ⟨q', hq', e⟩ := List.mem_map.mp z
              exact List.mem_map.mpr ⟨q', hq', kkP_inj e⟩
          obtain ⟨o, ho, hex, hd⟩ := hS.obj
          -- sorted
          have hA2 := I2.ok.hd hc
          refine Calls.call_function_entry kind_sorted plain_sorted entry_sorted (args_sorted1 _) ?_
          unfold Builtin.«sorted»
          refine wpAny_bind (m := checkCount "sorted" 1 1 _) (wpAny_pure ?_)
          have esz : es.size < scanBound := by
            have z1 := hS.size (s := { s1 with heap := h', toks := tk })
            have z2 := hS.few
            rw [z1]
            exact Nat.lt_trans z2 (by decide)
          refine wpAny_bind (collect_set (A := X.A.in1) (s := { s1 with heap := h', toks := tk }) hA2 ⟨o, ho, hex.1, hd⟩ (hS.fits (s := { s1 with heap := h', toks := tk })) esz hS.tab.ris hS.led fun s2 out k1 hz' g1 o1 pm => ?_)
          have pm2 : out.Perm (L0.map fun q => Value.ref q.1) := by
            rw [hS.ent, List.map_map, List.map_map] at pm
            exact pm
          obtain ⟨L1, p1, rfl⟩ := perm_map pm2.symm L0 rfl
          have hln : L1.length < 64 := by
            have z := hS.few
            rw [List.length_map] at z
            rw [p1.length_eq]
            exact z
          refine wpAny_bind (wpAny_newList ?_ (by rw [List.length_map, sizeLine_eq]; omega))
          have hoL : (s2.heap.push (seqObj "list" (L1.map fun q => Value.ref q.1).toArray 0)).get? s2.heap.objs.size = some (seqObj "list" (L1.map fun q => Value.ref q.1).toArray 0) := Heap.get?_push_size _ rfl
          have H1k : ∀ q ∈ L1, H1 q.1 = some (.tup [.str q.2.1, .str q.2.2]) := fun q hq => k3 q (hL0 q (p1.mem_iff.mp hq))
          have srt : srtOk ((L1.map (·.2)).map pdD) = true := by
            unfold srtOk
            simp only [Bool.and_eq_true, List.all_eq_true, decide_eq_true_eq, Bool.or_eq_true]
            refine ⟨⟨⟨⟨fun x hx => ?_, fun x hx y hy => ?_⟩, .inl fun x hx => ?_⟩, fun x hx => ?_⟩, by rw [List.length_map, List.length_map, sizeLine_eq]; omega⟩
            all_goals obtain ⟨a, _, rfl⟩ := List.mem_map.mp hx
            · rfl
            · obtain ⟨b, _, rfl⟩ := List.mem_map.mp hy
              rfl
            · rfl
            · simp [MP.encD, toPD, toPDs, pdD, PyData.depth, PyData.depthAll]
          obtain ⟨_, srt2, srt3, _, _⟩ := srtOk_inv srt
          have een : ((L1.map (·.2)).map pdD).map encD = L1.map fun q => encP q.2 := by rw [List.map_map, List.map_map]; rfl
          rw [een] at srt2 srt3
          have eR : ∀ l : List (Addr × PS), PySem.W.EachIs (fun v (q : Addr × PS) => v = Value.ref q.1) (l.map fun q => Value.ref q.1) l := fun l => by
            induction l with
            | nil => exact .nil
            | cons q l ih => exact .cons rfl ih
          have rd : ∀ l : List (Addr × PS), (∀ q ∈ l, q ∈ L1) → PySem.W.EachIs (fun v (q : Addr × PS) => ∃ as, Reads (s2.heap.push (seqObj "list" (L1.map fun q => Value.ref q.1).toArray 0)) v (encP q.2) as ∧ s2.heap.objs.size ∉ as) (l.map fun q => Value.ref q.1) l := fun l => by
            induction l with
            | nil => exact fun _ => .nil
            | cons q l ih =>
              refine fun hl => .cons ?_ (ih fun x hx => hl x (List.mem_cons_of_mem _ hx))
              obtain ⟨its', rv3, ht, _⟩ := I2.tuple (SqT.of (H1k q (hl q List.mem_cons_self)))
              obtain ⟨u, y, ei, ⟨t1, ru⟩, ⟨t2, ry⟩⟩ := vals2 rv3
              subst ei ru ry
              obtain ⟨ob, g1, g2, n, g3⟩ := ht
              exact ⟨[], .tuple (Heap.get?_push_of_some _ (k1 _ _ g1)) g2 g3 (.cons (.str _ _) (.cons (.str _ _) .nil)), fun z => nomatch z⟩
          refine wpAny_bind (wpAny_holding (PySem.W.list_sort_data (enc := fun q : Addr × PS => encP q.2) hoL (eR L1) (rd L1 fun _ h => h) srt2 srt3 (by rw [sizeLine_eq]; omega) (fun b _ => ?_) fun outs hos hE => ?_))
          · have : (encP b.2).depth ≤ 3 := by simp [encP, PyData.depth, PyData.depthAll]
            have hAu : X.A.in1.units ≤ X.A.units + 1 := by simp [Around.in1]
            omega
          obtain ⟨c, hc'⟩ := sortedHeap_at (vs := L1.map fun q => Value.ref q.1) (out := outs.toArray) hoL
          -- what stands in it
          have srtL : ∀ (l : List (Addr × PS)) (us : List Value), PySem.W.EachIs (fun v (q : Addr × PS) => v = Value.ref q.1) us l → us = l.map fun q => Value.ref q.1 := fun l us h => by
            induction h with
            | nil => rfl
            | cons h _ ih => rw [h, ih]; rfl
          have eo := srtL _ _ hE
          generalize hM2 : L1.mergeSort (PySem.W.dataLe false fun q : Addr × PS => encP q.2) = M2 at eo
          have pM : M2.Perm L0 := by rw [← hM2]; exact (List.mergeSort_perm _ _).trans p1
          have pw : (M2.map (·.2)).Pairwise fun x y => leP x y = true := by
            rw [List.pairwise_map, ← hM2]
            have e3 : (PySem.W.dataLe false fun q : Addr × PS => encP q.2) = fun p q => leP p.2 q.2 := by
              have := le_encP
              funext p q
              exact congrFun (congrFun this p.2) q.2
            rw [e3]
            exact List.pairwise_mergeSort (le := fun p q : Addr × PS => leP p.2 q.2) (fun a b c => leP_trans a.2 b.2 c.2) (fun a b => leP_total a.2 b.2) _
          have fin : M2.map (·.2) = srtP ps := srtP_of pw ((pM.map (·.2)).nodup_iff.mpr once) fun k => ((pM.map (·.2)).mem_iff).trans (same k)
          have hML : M2.length < 64 := by rw [pM.length_eq, ← p1.length_eq]; exact hln
          have hn : H1 s2.heap.objs.size = none := I2.hok.fresh hz'
          have vals : Vals (M2.map fun q => V.ref q.1) (M2.map fun q => Value.ref q.1) := by
            have key : ∀ l : List (Addr × PS), Vals (l.map fun q => V.ref q.1) (l.map fun q => Value.ref q.1) := fun l => by
              induction l with
              | nil => exact .nil
              | cons q l ih => exact .cons rfl ih
            exact key M2
          have vrs : VRs X.K m1 H1 (M2.map fun q => V.ref q.1) ((srtP ps).map pdD) := by
            rw [← fin]
            have key : ∀ l : List (Addr × PS), (∀ q ∈ l, q ∈ M2) → VRs X.K m1 H1 (l.map fun q => V.ref q.1) ((l.map (·.2)).map pdD) := fun l => by
              induction l with
              | nil => exact fun _ => .nil
              | cons q l ih =>
                refine fun h => .cons (.tup (k3 q (hL0 q (pM.mem_iff.mp (h q List.mem_cons_self)))) (.cons (.str _) (.cons (.str _) .nil))) (ih fun x hx => h x (List.mem_cons_of_mem _ hx))
            exact key M2 fun _ h => h
          refine wpAny_pure ⟨_, rfl, ?_⟩
          have J : Inv X pins σ (upd H1 s2.heap.objs.size (.lst (M2.map fun q => V.ref q.1))) { ({ s1 with heap := h', toks := tk } : Shared) with heap := sortedHeap (s2.heap.push (seqObj "list" (L1.map fun q => Value.ref q.1).toArray 0)) s2.heap.objs.size (L1.map fun q => Value.ref q.1) outs.toArray, gens := s2.gens, drawn := s2.drawn, toks := s2.toks } := by
            have k : ∀ b o, h'.get? b = some o → (sortedHeap (s2.heap.push (seqObj "list" (L1.map fun q => Value.ref q.1).toArray 0)) s2.heap.objs.size (L1.map fun q => Value.ref q.1) outs.toArray).get? b = some o := fun b u e => by
              have q' := k1 b u e
              have hlt := Heap.lt_size q'
              rw [sortedHeap_old (Nat.ne_of_lt hlt) (by rw [size_push']; exact Nat.lt_succ_of_lt hlt)]
              exact Heap.get?_push_of_some _ q'
            refine I2.call (ch := []) (Un.laid k hz' hn) (I2.hok.laid k hz' ⟨by rw [List.length_map, sizeLine_eq]; omega, M2.map fun q => Value.ref q.1, c, vals, ?_⟩) (by rw [g1]; exact I2.bare) (fun _ z => nomatch z)
            rw [← eo]
            exact hc'
          have eS : ({ s2 with heap := sortedHeap (s2.heap.push (seqObj "list" (L1.map fun q => Value.ref q.1).toArray 0)) s2.heap.objs.size (L1.map fun q => Value.ref q.1) outs.toArray } : Shared) = { ({ s1 with heap := h', toks := tk } : Shared) with heap := sortedHeap (s2.heap.push (seqObj "list" (L1.map fun q => Value.ref q.1).toArray 0)) s2.heap.objs.size (L1.map fun q => Value.ref q.1) outs.toArray, gens := s2.gens, drawn := s2.drawn, toks := s2.toks } := by
            obtain ⟨a1, a2, a3, a4, a5⟩ := s2
            have o' : a5 = s1.os := o1
            subst o'
            rfl
          rw [eS]
          exact (vpr_of ⟨.ref s2.heap.objs.size, upd H1 s2.heap.objs.size (.lst (M2.map fun q => V.ref q.1)), m1, J, rfl, Ext.fresh hn, x1.fresh hn, vr_newLst x1 hn vrs⟩).left e1
      · cases q2
    · cases q2
  · cases q2
end MP

/-! upper, {text: number}, isinstance of numbers and truths of any datum, is not True -/
namespace MP
open PySem PySem.Spec PyProof.Rows L2
section
variable {X : Cx}
theorem pel_disp1i {k : Str} {v : Int} {j1 j2 : Nat} {p1 p2 pos : Pos} : PEL X (.Dict [some (.Constant (.str k) j1 p1)] [.Constant (.int v) j2 p2] pos) (fun _ S => .ok (.dct false [(.str k, .int v)]) S) :=
  .of_pe (pe_disp (pps_cons pe_str pe_int pps_nil) rfl rfl (by simp) (by simp)) fun σ H m ρ S x er hp p hn => by
    refine ⟨upd_same, [(.inr k, .int v)], rfl, by simp, _, _, rfl, ?_⟩
    rw [upd2]
    exact qv_new x hn (.dct (x.nin hn) upd_same (.cons (k := .inr k) (.int _) .nil))
def gNotB : G2 := fun _ x y => match x, y with
  | .bl a, .bl b => some (.bl (!decide (a = b)))
  | _, _ => none
theorem opl_notB : OpL X (compareOp .IsNot) gNotB := .of op_notBl fun H m S x y dx dy d q rx ry e => by
  unfold gNotB at e
  split at e
  · cases e
    cases rx
    cases ry
    exact ⟨_, _, rfl, rfl, qv_same q (.bl _)⟩
  · cases e
def lUpper (lo : LE) : LE := fun ρ S => (lo ρ S).bind fun d S1 => match d with
  | .str z => if z.length ≤ 100000 then .ok (.str (Txt.upper z)) S1 else .bad
  | _ => .bad
theorem pel_upper {o : Expr} {lo : LE} {apos pos : Pos} (ho : PEL X o lo) (hbase : attributeBase o "upper" X.env (eval o X.env) = eval o X.env := by rfl) (hline : (apos.endLine == pos.line) = true := by rfl) : PEL X (.Call (.Attribute o "upper" apos) [] [] pos) (lUpper lo) := by
  refine ⟨fun pins s σ H m ρ S I x r hp => ?_⟩
  refine PySem.Call_method0 hbase hline (run_seq ho I x r hp fun d S1 q1 v u s1 H1 m1 I1 rv e1 x1 w1 r1 hp1 => ?_)
  cases w1 with
  | str z =>
    have hz := hope_if hp1
    have e0 : lUpper lo ρ S = .ok (.str (Txt.upper z)) S1 := by unfold lUpper; rw [q1, bind_ok]; exact if_pos hz
    rw [e0]
    obtain ⟨t, rfl⟩ := _root_.id rv
    exact ⟨"str", _, F.plainAttrs_str, F.slot_str_upper, F.type_str_upper, typeIs_str _ _ _, (fun _ e => nomatch e), Calls.callWith_builtin rfl (PySem.evalArgs_none (thn (mt_upper pins s1 σ H1 _ [] _ [] (QV X.K m1 H1 S1 (.str (Txt.upper z))) I1 (show RelV (V.str z) (Value.str z t) from ⟨t, rfl⟩) .nil ⟨z, rfl, rfl, Nat.le_trans hz (by decide), qv_same x1 (.str _)⟩) fun _ _ y => (vpr_of (vp_of y)).left e1))⟩
  | _ => exact absurd rfl hp1.1
end
def tabIntA : Tab
  | .int => some true
  | .bl => some true
  | .obj _ => none
  | _ => some false
theorem isi_intA {K : PySem.W.Frag} : IsiOk K (.type "int") tabIntA := ⟨fun t b h => by
  cases t with
  | obj C => cases h
  | _ => first
    | (cases h; exact ⟨kit_ty (by decide +kernel), fun C z => nomatch z⟩)
    | skip⟩
def tabBlA : Tab
  | .bl => some true
  | .obj _ => none
  | _ => some false
theorem isi_boolA {K : PySem.W.Frag} : IsiOk K (.type "bool") tabBlA := ⟨fun t b h => by
  cases t with
  | obj C => cases h
  | _ => first
    | (cases h; exact ⟨kit_ty (by decide +kernel), fun C z => nomatch z⟩)
    | skip⟩
end MP

/-! the end of a walk with the guards: the lines of L2.law_call and L2.walk_ofB over MP.FnOk -/
namespace MP
open PySem PySem.Spec PyProof.Rows L2
theorem law_callG {P : Program} {w : World} {K : PySem.W.Frag} {mg mb : Str → Option Value} {CX : CXT} {k : Nat} {fa a : Addr} {fd : FuncData} {x : Str} {sp : Sp} {s₁ : Shared} {vs : List Value} {ns : List Int}
    (KX : K.In s₁.heap) (hns : s₁.heap.Ns mainGlobals mg) (hb : s₁.heap.Ns builtinsNs mb) (hbb : ∀ x : Str, x ≠ "__name__" → mb x = bootBuiltins x) (hlim : s₁.heap.NoLimit) (hg : s₁.gens = #[])
    (ha : s₁.heap.get? a = some { cls := .type "list", data := .seq vs.toArray }) (hi : IntsAre vs ns) (hl : ns.length ≤ sizeLine) (hr : MP.Room k callerA)
    (F : ∀ base : Heap, K.In base → base.Ns mainGlobals mg → MP.FnOk P w K mg base CX k fa fd [x] sp) (hbind : ∀ (s : Shared) (u : Value), BindsTo s fd ⟨[u], []⟩ [(x, u)])
    (hsp : ∀ H : Hp, Only H → SqL K H a (ns.map V.int) → sp [.ref a] H (fun v _ => v = .bl true) fun _ _ _ => False)
    (hCX : ∀ H e s', CX [] H s₁ (fun _ _ _ => False) e s' → False) :
    codeAny (model P w) callerA (.call (.ref fa) ⟨[.ref a], []⟩) (fun r s' => r = .ok (.ret (.bool true)) ∧ OldK s₁.heap s'.heap ∧ s'.os = s₁.os ∧ AllBare s'.gens) s₁ := by
  have rv := vals_ints hi
  have lenV := hi.length
  -- from an abstract heap in which nothing but the script may be tracked
  have core : ∀ H : Hp, Only H → SqL K H a (ns.map V.int) → HOk P w H s₁.heap → (∀ b, H b ≠ none → b = a) → (H a ≠ none → K.lookup a = none) →
      codeAny (model P w) callerA (.call (.ref fa) ⟨[.ref a], []⟩) (fun r s' => r = .ok (.ret (.bool true)) ∧ OldK s₁.heap s'.heap ∧ s'.os = s₁.os ∧ AllBare s'.gens) s₁ := by
    intro H hO hS hok hA hK
    have base_of : ∀ {b : Addr} {o : Obj}, s₁.heap.get? b = some o → H b = none → (hidT s₁.heap H).get? b = some o := fun e n => hidT_get e n
    have noA : ∀ {b : Addr} {o : Obj} {es : Array DictEntry} {ep : Nat}, s₁.heap.get? b = some o → o.data = .dict es ep → H b = none := fun {b o es ep} e d => by
      cases q : H b with
      | none => rfl
      | some u =>
        have e' : b = a := hA b (by rw [q]; simp)
        subst e'
        rw [ha] at e; cases e
        have d' : Data.seq vs.toArray _ = Data.dict es ep := d
        cases d'
    have nsK : ∀ {b : Addr} {m : Str → Option Value}, s₁.heap.Ns b m → (hidT s₁.heap H).Ns b m := fun {b m} ⟨o, es, ep, e, d, r⟩ => ⟨o, es, ep, base_of e (noA e d), d, r⟩
    have hKb : K.In (hidT s₁.heap H) := fun b o e => base_of (KX b o e) (by
      cases q : H b with
      | none => rfl
      | some u =>
        have e' : b = a := hA b (by rw [q]; simp)
        subst e'
        rw [hK (by rw [q]; simp)] at e; cases e)
    have hM : Mod K mg (hidT s₁.heap H) := ⟨hKb, nsK hns, ⟨mb, nsK hb, hbb⟩, let ⟨mc, h1, h2⟩ := hlim; ⟨mc, nsK h1, h2⟩⟩
    have e0 : Env0 P w K mg (hidT s₁.heap H) callerA [] s₁ H := ⟨rfl, hM, fun b o e => of_hidT e, Nat.le_of_eq (hidT_size _ _), trivial, fun b hb => absurd (show b ∈ ([] : List Addr) from hb) (by simp), hok, .of_eq hg⟩
    refine codeAny_mono ((F _ hKb (nsK hns)).run callerA [] s₁ H ⟨[.ref a], []⟩ [.ref a] [.ref a] _ _ hr e0 (hbind s₁ (.ref a)) (.cons rfl .nil) (hsp H hO hS)) fun r s' h => ?_
    cases r with
    | error e => exact (hCX H e s' h).elim
    | ok fl =>
      cases fl with
      | next => exact False.elim h
      | brk => exact False.elim h
      | cont => exact False.elim h
      | ret u =>
        obtain ⟨v, H', os, bare, un, hok', r', q⟩ := h
        have q' : v = .bl true := q
        subst q'
        obtain rfl : u = Value.bool true := r'
        refine ⟨rfl, OldK.of_keep fun b o e => ?_, os, bare⟩
        cases q : H b with
        | none => exact un.keep b o e q (by intro z; exact absurd (show b ∈ ([] : List Addr) from z) (by simp)) (by simp)
        | some u =>
          rcases hO b with z | ⟨ob, xs, z⟩
          · rw [q] at z; cases z
          · have z2 := un.frzs b ob _ z
            obtain ⟨e1, _⟩ := hok b _ z
            obtain ⟨e2, _⟩ := hok' b _ z2
            rw [e] at e1; cases e1
            exact e2
  cases hk : K.lookup a with
  | some o =>
    -- the script is one of the module's own objects
    have e := KX a o hk
    rw [ha] at e
    cases e
    refine core (fun _ => none) (fun _ => .inl rfl) (.inr ⟨_, vs.toArray, _, hk, rfl, rfl, rfl, by rw [List.size_toArray, lenV]; exact hl, by simpa using rv⟩) (fun b u z => by have z' : (none : Option HO) = some u := z; cases z') (fun b z => absurd rfl z) fun z => absurd rfl z
  | none =>
    refine core (fun b => if b = a then some (.frz { cls := .type "list", data := .seq vs.toArray } (.lst (ns.map V.int))) else none) (fun b => ?_) (.inl (.inr ⟨{ cls := .type "list", data := .seq vs.toArray }, if_pos rfl⟩)) (fun b u z => ?_) (fun b z => ?_) fun _ => hk
    · by_cases hb : b = a
      · exact .inr ⟨_, _, if_pos hb⟩
      · exact .inl (if_neg hb)
    · by_cases hb : b = a
      · have z' := (if_pos hb).symm.trans z
        cases z'
        subst hb
        exact ⟨ha, by rw [List.length_map]; exact hl, vs, _, rv, ha⟩
      · have z' := (if_neg hb).symm.trans z
        cases z'
    · by_cases hb : b = a
      · exact hb
      · exact absurd (if_neg hb) z
theorem walk_ofG {l : PySem.W.OpenLaw} {n k : Nat} {q : Program} {loose : List Str} {XP : (Str → Option Value) → Heap → Prop} {YP : World → Heap → Prop} {d : DefRec} {K : Params → PySem.W.Frag} {CX : World → CXT} {sp : World → Sp} {x : Str}
    (hn : l.most = some n) (hn2 : n ≤ sizeLine) (hdf : d.params.defaults = []) (hr : MP.Room k callerA)
    (hY : ∀ (w : World) (h : Heap), YP w h → (K w.params).In h)
    (F : ∀ (w : World) (mg : Str → Option Value) (fa : Addr) (h : Heap), (K w.params).In h → h.Ns mainGlobals mg → mg d.name = some (.ref fa) →
      ∃ fd : FuncData, (∀ (s : Shared) (u : Value), BindsTo s fd ⟨[u], []⟩ [(x, u)]) ∧
        ∀ base : Heap, (K w.params).In base → base.Ns mainGlobals mg → MP.FnOk l.prog w (K w.params) mg base (CX w) k fa fd [x] (sp w))
    (hsp : ∀ (w : World) (H : Hp) (a : Addr) (ns : List Int), ns.length ≤ n → (∀ z ∈ ns, Builtin.Int.intBits z ≤ 1048576) → Only H → SqL (K w.params) H a (ns.map V.int) → sp w [.ref a] H (fun v _ => v = .bl true) fun _ _ _ => False)
    (hCX : ∀ (w : World) (H : Hp) (s : Shared) (e : Value) (s' : Shared), CX w [] H s (fun _ _ _ => False) e s' → False) :
    PySem.W.WalkO q loose XP YP l.row.toRowW d [] (fun f vs => PySem.call f vs) := by
  refine Att.attach_callB hn hdf fun w s₀ s₁ mg mb fa o pm cd doc a vs ns G Y ho hd hcd hmg hobj hints hlen hbits hg => ?_
  have KX := hY w _ Y
  obtain ⟨fd, hb, hF⟩ := F w mg fa _ KX G.T.g hmg
  exact law_callG KX G.T.g G.T.b G.T.builtins G.T.nolimit hg hobj hints (Nat.le_trans hlen hn2) hr hF hb (fun H hO hS => hsp w H a ns hlen hbits hO hS) fun H e s' => hCX w H s₁ e s'
theorem room_caller {k : Nat} (h : L2.Room k callerA) : MP.Room k callerA := ⟨h, rfl⟩
end MP

namespace K01
open PySem PySem.Spec PyProof.Rows L2 MP
def top (i : Nat) : Stmt := PySem.Challenge.pw_lotgivers_k01_names_and_circles_made.main.body.getD i (.Pass ⟨0, 0, 0, 0⟩)
abbrev s_is_name : Stmt := top 3
abbrev N_is_name : List Str := ["thing", "letter"]
theorem sc_is_name : FnScope N_is_name ["thing"] (defScope s_is_name) := ⟨rfl, rfl, rfl, by decide +kernel, rfl, by decide +kernel, by decide +kernel⟩
abbrev s_is_pair : Stmt := top 4
abbrev N_is_pair : List Str := ["thing"]
theorem sc_is_pair : FnScope N_is_pair ["thing"] (defScope s_is_pair) := ⟨rfl, rfl, rfl, by decide +kernel, rfl, by decide +kernel, by decide +kernel⟩
abbrev s_does_rise : Stmt := top 5
abbrev N_does_rise : List Str := ["things", "one", "other"]
theorem sc_does_rise : FnScope N_does_rise ["things"] (defScope s_does_rise) := ⟨rfl, rfl, rfl, by decide +kernel, rfl, by decide +kernel, by decide +kernel⟩
abbrev s_are_pairs : Stmt := top 6
abbrev N_are_pairs : List Str := ["thing", "one"]
theorem sc_are_pairs : FnScope N_are_pairs ["thing"] (defScope s_are_pairs) := ⟨rfl, rfl, rfl, by decide +kernel, rfl, by decide +kernel, by decide +kernel⟩
abbrev s_is_member : Stmt := top 9
abbrev N_is_member : List Str := ["thing"]
theorem sc_is_member : FnScope N_is_member ["thing"] (defScope s_is_member) := ⟨rfl, rfl, rfl, by decide +kernel, rfl, by decide +kernel, by decide +kernel⟩
abbrev s_are_members : Stmt := top 10
abbrev N_are_members : List Str := ["thing", "one", "other"]
theorem sc_are_members : FnScope N_are_members ["thing"] (defScope s_are_members) := ⟨rfl, rfl, rfl, by decide +kernel, rfl, by decide +kernel, by decide +kernel⟩
abbrev s_are_years : Stmt := top 11
abbrev N_are_years : List Str := ["thing", "year"]
theorem sc_are_years : FnScope N_are_years ["thing"] (defScope s_are_years) := ⟨rfl, rfl, rfl, by decide +kernel, rfl, by decide +kernel, by decide +kernel⟩
abbrev s_is_circle : Stmt := top 12
abbrev N_is_circle : List Str := ["members", "bars", "past", "gap"]
theorem sc_is_circle : FnScope N_is_circle ["members", "bars", "past", "gap"] (defScope s_is_circle) := ⟨rfl, rfl, rfl, by decide +kernel, rfl, by decide +kernel, by decide +kernel⟩
abbrev s__law_blend : Stmt := top 14
abbrev N__law_blend : List Str := ["_law_number", "_law_turn", "_law_seed", "_law_once"]
theorem sc__law_blend : FnScope N__law_blend ["_law_number", "_law_turn"] (defScope s__law_blend) := ⟨rfl, rfl, rfl, by decide +kernel, rfl, by decide +kernel, by decide +kernel⟩
abbrev s__law_pot : Stmt := top 15
abbrev N__law_pot : List Str := ["_law_script"]
theorem sc__law_pot : FnScope N__law_pot ["_law_script"] (defScope s__law_pot) := ⟨rfl, rfl, rfl, by decide +kernel, rfl, by decide +kernel, by decide +kernel⟩
abbrev s__law_draw : Stmt := top 16
abbrev N__law_draw : List Str := ["_law_pot_here", "_law_size", "_law_cell", "_law_digit"]
theorem sc__law_draw : FnScope N__law_draw ["_law_pot_here", "_law_size"] (defScope s__law_draw) := ⟨rfl, rfl, rfl, by decide +kernel, rfl, by decide +kernel, by decide +kernel⟩
abbrev s__law_pick : Stmt := top 17
abbrev N__law_pick : List Str := ["_law_pot_here", "_law_some"]
theorem sc__law_pick : FnScope N__law_pick ["_law_pot_here", "_law_some"] (defScope s__law_pick) := ⟨rfl, rfl, rfl, by decide +kernel, rfl, by decide +kernel, by decide +kernel⟩
abbrev s__law_words : Stmt := top 18
abbrev N__law_words : List Str := ["_law_pot_here", "_law_size", "_law_letters", "_law_found", "_law_stem", "_law_k", "_law_at", "_law_way", "_law_letter"]
theorem sc__law_words : FnScope N__law_words ["_law_pot_here", "_law_size"] (defScope s__law_words) := ⟨rfl, rfl, rfl, by decide +kernel, rfl, by decide +kernel, by decide +kernel⟩
abbrev s__law_pairs : Stmt := top 19
abbrev N__law_pairs : List Str := ["_law_pot_here", "_law_pool", "_law_size", "_law_found", "_law_turn"]
theorem sc__law_pairs : FnScope N__law_pairs ["_law_pot_here", "_law_pool", "_law_size"] (defScope s__law_pairs) := ⟨rfl, rfl, rfl, by decide +kernel, rfl, by decide +kernel, by decide +kernel⟩
abbrev s__law_turned_round : Stmt := top 20
abbrev N__law_turned_round : List Str := ["_law_pot_here", "_law_some", "_law_rest", "_law_found", "_law_one"]
theorem sc__law_turned_round : FnScope N__law_turned_round ["_law_pot_here", "_law_some"] (defScope s__law_turned_round) := ⟨rfl, rfl, rfl, by decide +kernel, rfl, by decide +kernel, by decide +kernel⟩
abbrev s__law_parts : Stmt := top 21
abbrev N__law_parts : List Str := ["_law_pot_here", "_law_most", "_law_words_here", "_law_inner", "_law_strange", "_law_houses", "_law_members", "_law_one", "_law_bars", "_law_past", "_law_turn", "_law_gap"]
theorem sc__law_parts : FnScope N__law_parts ["_law_pot_here", "_law_most"] (defScope s__law_parts) := ⟨rfl, rfl, rfl, by decide +kernel, rfl, by decide +kernel, by decide +kernel⟩
abbrev s__law_is_name : Stmt := top 22
abbrev N__law_is_name : List Str := ["_law_thing", "_law_letter"]
theorem sc__law_is_name : FnScope N__law_is_name ["_law_thing"] (defScope s__law_is_name) := ⟨rfl, rfl, rfl, by decide +kernel, rfl, by decide +kernel, by decide +kernel⟩
abbrev s__law_are_pairs : Stmt := top 23
abbrev N__law_are_pairs : List Str := ["_law_thing", "_law_pair"]
theorem sc__law_are_pairs : FnScope N__law_are_pairs ["_law_thing"] (defScope s__law_are_pairs) := ⟨rfl, rfl, rfl, by decide +kernel, rfl, by decide +kernel, by decide +kernel⟩
abbrev s__law_are_members : Stmt := top 24
abbrev N__law_are_members : List Str := ["_law_thing", "_law_one", "_law_words_here"]
theorem sc__law_are_members : FnScope N__law_are_members ["_law_thing"] (defScope s__law_are_members) := ⟨rfl, rfl, rfl, by decide +kernel, rfl, by decide +kernel, by decide +kernel⟩
abbrev s__law_is_circle : Stmt := top 25
abbrev N__law_is_circle : List Str := ["_law_four", "_law_some", "_law_bars", "_law_past", "_law_gap", "_law_year"]
theorem sc__law_is_circle : FnScope N__law_is_circle ["_law_four"] (defScope s__law_is_circle) := ⟨rfl, rfl, rfl, by decide +kernel, rfl, by decide +kernel, by decide +kernel⟩
abbrev s__law_odd : Stmt := top 26
abbrev N__law_odd : List Str := ["_law_pot_here", "_law_thing", "_law_some"]
theorem sc__law_odd : FnScope N__law_odd ["_law_pot_here", "_law_thing"] (defScope s__law_odd) := ⟨rfl, rfl, rfl, by decide +kernel, rfl, by decide +kernel, by decide +kernel⟩
abbrev s__law_otherwise : Stmt := top 27
abbrev N__law_otherwise : List Str := ["_law_pot_here", "_law_thing", "_law_at"]
theorem sc__law_otherwise : FnScope N__law_otherwise ["_law_pot_here", "_law_thing"] (defScope s__law_otherwise) := ⟨rfl, rfl, rfl, by decide +kernel, rfl, by decide +kernel, by decide +kernel⟩
abbrev s__law_exchanged : Stmt := top 28
abbrev N__law_exchanged : List Str := ["_law_pot_here", "_law_row", "_law_at"]
theorem sc__law_exchanged : FnScope N__law_exchanged ["_law_pot_here", "_law_row"] (defScope s__law_exchanged) := ⟨rfl, rfl, rfl, by decide +kernel, rfl, by decide +kernel, by decide +kernel⟩
abbrev s__law_right : Stmt := top 29
abbrev N__law_right : List Str := ["_law_four", "_law_found"]
theorem sc__law_right : FnScope N__law_right ["_law_four"] (defScope s__law_right) := ⟨rfl, rfl, rfl, by decide +kernel, rfl, by decide +kernel, by decide +kernel⟩
abbrev s__law_texts : Stmt := top 30
abbrev N__law_texts : List Str := ["_law_pot_here", "_law_found", "_law_size", "_law_word", "_law_k", "_law_at"]
theorem sc__law_texts : FnScope N__law_texts ["_law_pot_here"] (defScope s__law_texts) := ⟨rfl, rfl, rfl, by decide +kernel, rfl, by decide +kernel, by decide +kernel⟩
abbrev s_law : Stmt := top 31
abbrev N_law : List Str := ["_law_script", "_law_pot_here", "_law_turn", "_law_four", "_law_some", "_law_far", "_law_k", "_law_bent", "_law_one", "_law_thing", "_law_found"]
theorem sc_law : FnScope N_law ["_law_script"] (defScope s_law) := ⟨rfl, rfl, rfl, by decide +kernel, rfl, by decide +kernel, by decide +kernel⟩
structure T01 (K : PySem.W.Frag) (mg : Str → Option Value) where
  tk_LETTERS : Tok
  tk_MOST_LETTERS : Tok
  tk_MOST_FIGURES : Tok
  f_is_name : Addr
  fd_is_name : FuncData
  F_is_name : Fun K "is_name" "is_name" s_is_name f_is_name fd_is_name
  b_is_name : Binds K fd_is_name ["thing"] []
  mg_is_name : mg "is_name" = some (.ref f_is_name)
  f_is_pair : Addr
  fd_is_pair : FuncData
  F_is_pair : Fun K "is_pair" "is_pair" s_is_pair f_is_pair fd_is_pair
  b_is_pair : Binds K fd_is_pair ["thing"] []
  mg_is_pair : mg "is_pair" = some (.ref f_is_pair)
  f_does_rise : Addr
  fd_does_rise : FuncData
  F_does_rise : Fun K "does_rise" "does_rise" s_does_rise f_does_rise fd_does_rise
  b_does_rise : Binds K fd_does_rise ["things"] []
  mg_does_rise : mg "does_rise" = some (.ref f_does_rise)
  f_are_pairs : Addr
  fd_are_pairs : FuncData
  F_are_pairs : Fun K "are_pairs" "are_pairs" s_are_pairs f_are_pairs fd_are_pairs
  b_are_pairs : Binds K fd_are_pairs ["thing"] []
  mg_are_pairs : mg "are_pairs" = some (.ref f_are_pairs)
  f_is_member : Addr
  fd_is_member : FuncData
  F_is_member : Fun K "is_member" "is_member" s_is_member f_is_member fd_is_member
  b_is_member : Binds K fd_is_member ["thing"] []
  mg_is_member : mg "is_member" = some (.ref f_is_member)
  f_are_members : Addr
  fd_are_members : FuncData
  F_are_members : Fun K "are_members" "are_members" s_are_members f_are_members fd_are_members
  b_are_members : Binds K fd_are_members ["thing"] []
  mg_are_members : mg "are_members" = some (.ref f_are_members)
  f_are_years : Addr
  fd_are_years : FuncData
  F_are_years : Fun K "are_years" "are_years" s_are_years f_are_years fd_are_years
  b_are_years : Binds K fd_are_years ["thing"] []
  mg_are_years : mg "are_years" = some (.ref f_are_years)
  f_is_circle : Addr
  fd_is_circle : FuncData
  F_is_circle : Fun K "is_circle" "is_circle" s_is_circle f_is_circle fd_is_circle
  b_is_circle : Binds K fd_is_circle ["members", "bars", "past", "gap"] []
  mg_is_circle : mg "is_circle" = some (.ref f_is_circle)
  f__law_blend : Addr
  fd__law_blend : FuncData
  F__law_blend : Fun K "_law_blend" "_law_blend" s__law_blend f__law_blend fd__law_blend
  b__law_blend : Binds K fd__law_blend ["_law_number", "_law_turn"] []
  mg__law_blend : mg "_law_blend" = some (.ref f__law_blend)
  f__law_pot : Addr
  fd__law_pot : FuncData
  F__law_pot : Fun K "_law_pot" "_law_pot" s__law_pot f__law_pot fd__law_pot
  b__law_pot : Binds K fd__law_pot ["_law_script"] []
  mg__law_pot : mg "_law_pot" = some (.ref f__law_pot)
  f__law_draw : Addr
  fd__law_draw : FuncData
  F__law_draw : Fun K "_law_draw" "_law_draw" s__law_draw f__law_draw fd__law_draw
  b__law_draw : Binds K fd__law_draw ["_law_pot_here", "_law_size"] []
  mg__law_draw : mg "_law_draw" = some (.ref f__law_draw)
  f__law_pick : Addr
  fd__law_pick : FuncData
  F__law_pick : Fun K "_law_pick" "_law_pick" s__law_pick f__law_pick fd__law_pick
  b__law_pick : Binds K fd__law_pick ["_law_pot_here", "_law_some"] []
  mg__law_pick : mg "_law_pick" = some (.ref f__law_pick)
  f__law_words : Addr
  fd__law_words : FuncData
  F__law_words : Fun K "_law_words" "_law_words" s__law_words f__law_words fd__law_words
  b__law_words : Binds K fd__law_words ["_law_pot_here", "_law_size"] []
  mg__law_words : mg "_law_words" = some (.ref f__law_words)
  f__law_pairs : Addr
  fd__law_pairs : FuncData
  F__law_pairs : Fun K "_law_pairs" "_law_pairs" s__law_pairs f__law_pairs fd__law_pairs
  b__law_pairs : Binds K fd__law_pairs ["_law_pot_here", "_law_pool", "_law_size"] []
  mg__law_pairs : mg "_law_pairs" = some (.ref f__law_pairs)
  f__law_turned_round : Addr
  fd__law_turned_round : FuncData
  F__law_turned_round : Fun K "_law_turned_round" "_law_turned_round" s__law_turned_round f__law_turned_round fd__law_turned_round
  b__law_turned_round : Binds K fd__law_turned_round ["_law_pot_here", "_law_some"] []
  mg__law_turned_round : mg "_law_turned_round" = some (.ref f__law_turned_round)
  f__law_parts : Addr
  fd__law_parts : FuncData
  F__law_parts : Fun K "_law_parts" "_law_parts" s__law_parts f__law_parts fd__law_parts
  b__law_parts : Binds K fd__law_parts ["_law_pot_here", "_law_most"] []
  mg__law_parts : mg "_law_parts" = some (.ref f__law_parts)
  f__law_is_name : Addr
  fd__law_is_name : FuncData
  F__law_is_name : Fun K "_law_is_name" "_law_is_name" s__law_is_name f__law_is_name fd__law_is_name
  b__law_is_name : Binds K fd__law_is_name ["_law_thing"] []
  mg__law_is_name : mg "_law_is_name" = some (.ref f__law_is_name)
  f__law_are_pairs : Addr
  fd__law_are_pairs : FuncData
  F__law_are_pairs : Fun K "_law_are_pairs" "_law_are_pairs" s__law_are_pairs f__law_are_pairs fd__law_are_pairs
  b__law_are_pairs : Binds K fd__law_are_pairs ["_law_thing"] []
  mg__law_are_pairs : mg "_law_are_pairs" = some (.ref f__law_are_pairs)
  f__law_are_members : Addr
  fd__law_are_members : FuncData
  F__law_are_members : Fun K "_law_are_members" "_law_are_members" s__law_are_members f__law_are_members fd__law_are_members
  b__law_are_members : Binds K fd__law_are_members ["_law_thing"] []
  mg__law_are_members : mg "_law_are_members" = some (.ref f__law_are_members)
  f__law_is_circle : Addr
  fd__law_is_circle : FuncData
  F__law_is_circle : Fun K "_law_is_circle" "_law_is_circle" s__law_is_circle f__law_is_circle fd__law_is_circle
  b__law_is_circle : Binds K fd__law_is_circle ["_law_four"] []
  mg__law_is_circle : mg "_law_is_circle" = some (.ref f__law_is_circle)
  f__law_odd : Addr
  fd__law_odd : FuncData
  F__law_odd : Fun K "_law_odd" "_law_odd" s__law_odd f__law_odd fd__law_odd
  b__law_odd : Binds K fd__law_odd ["_law_pot_here", "_law_thing"] []
  mg__law_odd : mg "_law_odd" = some (.ref f__law_odd)
  f__law_otherwise : Addr
  fd__law_otherwise : FuncData
  F__law_otherwise : Fun K "_law_otherwise" "_law_otherwise" s__law_otherwise f__law_otherwise fd__law_otherwise
  b__law_otherwise : Binds K fd__law_otherwise ["_law_pot_here", "_law_thing"] []
  mg__law_otherwise : mg "_law_otherwise" = some (.ref f__law_otherwise)
  f__law_exchanged : Addr
  fd__law_exchanged : FuncData
  F__law_exchanged : Fun K "_law_exchanged" "_law_exchanged" s__law_exchanged f__law_exchanged fd__law_exchanged
  b__law_exchanged : Binds K fd__law_exchanged ["_law_pot_here", "_law_row"] []
  mg__law_exchanged : mg "_law_exchanged" = some (.ref f__law_exchanged)
  f__law_right : Addr
  fd__law_right : FuncData
  F__law_right : Fun K "_law_right" "_law_right" s__law_right f__law_right fd__law_right
  b__law_right : Binds K fd__law_right ["_law_four"] []
  mg__law_right : mg "_law_right" = some (.ref f__law_right)
  f__law_texts : Addr
  fd__law_texts : FuncData
  F__law_texts : Fun K "_law_texts" "_law_texts" s__law_texts f__law_texts fd__law_texts
  b__law_texts : Binds K fd__law_texts ["_law_pot_here"] []
  mg__law_texts : mg "_law_texts" = some (.ref f__law_texts)
  f_law : Addr
  fd_law : FuncData
  F_law : Fun K "law" "law" s_law f_law fd_law
  b_law : Binds K fd_law ["_law_script"] []
  mg_law : mg "law" = some (.ref f_law)
  mg_LETTERS : mg "LETTERS" = some (.str "abcdefghijklmnopqrstuvwxyz" tk_LETTERS)
  mg_MOST_LETTERS : mg "MOST_LETTERS" = some (.int 12 tk_MOST_LETTERS)
  mg_MOST_FIGURES : mg "MOST_FIGURES" = some (.int 30 tk_MOST_FIGURES)
  n_len : mg "len" = none
  n_abs : mg "abs" = none
  n_all : mg "all" = none
  n_range : mg "range" = none
  n_isinstance : mg "isinstance" = none
  n_list : mg "list" = none
  n_tuple : mg "tuple" = none
  n_str : mg "str" = none
  n_sorted : mg "sorted" = none
  n_zip : mg "zip" = none
  n_set : mg "set" = none
  n_max : mg "max" = none
  n_min : mg "min" = none
  n_int : mg "int" = none
  n_bool : mg "bool" = none
def T01_mk {K : PySem.W.Frag} {h : Heap} {mg : Str → Option Value} (X : K.In h) (G : h.Ns mainGlobals mg)
    {f_is_name : Addr} {od_is_name an_is_name : Option Addr} {sl_is_name : Array (Option Value)} {oc_is_name kV_is_name dc_is_name pm_is_name cd_is_name ct_is_name : Value}
    {f_is_pair : Addr} {od_is_pair an_is_pair : Option Addr} {sl_is_pair : Array (Option Value)} {oc_is_pair kV_is_pair dc_is_pair pm_is_pair cd_is_pair ct_is_pair : Value}
    {f_does_rise : Addr} {od_does_rise an_does_rise : Option Addr} {sl_does_rise : Array (Option Value)} {oc_does_rise kV_does_rise dc_does_rise pm_does_rise cd_does_rise ct_does_rise : Value}
    {f_are_pairs : Addr} {od_are_pairs an_are_pairs : Option Addr} {sl_are_pairs : Array (Option Value)} {oc_are_pairs kV_are_pairs dc_are_pairs pm_are_pairs cd_are_pairs ct_are_pairs : Value}
    {f_is_member : Addr} {od_is_member an_is_member : Option Addr} {sl_is_member : Array (Option Value)} {oc_is_member kV_is_member dc_is_member pm_is_member cd_is_member ct_is_member : Value}
    {f_are_members : Addr} {od_are_members an_are_members : Option Addr} {sl_are_members : Array (Option Value)} {oc_are_members kV_are_members dc_are_members pm_are_members cd_are_members ct_are_members : Value}
    {f_are_years : Addr} {od_are_years an_are_years : Option Addr} {sl_are_years : Array (Option Value)} {oc_are_years kV_are_years dc_are_years pm_are_years cd_are_years ct_are_years : Value}
    {f_is_circle : Addr} {od_is_circle an_is_circle : Option Addr} {sl_is_circle : Array (Option Value)} {oc_is_circle kV_is_circle dc_is_circle pm_is_circle cd_is_circle ct_is_circle : Value}
    {f__law_blend : Addr} {od__law_blend an__law_blend : Option Addr} {sl__law_blend : Array (Option Value)} {oc__law_blend kV__law_blend dc__law_blend pm__law_blend cd__law_blend ct__law_blend : Value}
    {f__law_pot : Addr} {od__law_pot an__law_pot : Option Addr} {sl__law_pot : Array (Option Value)} {oc__law_pot kV__law_pot dc__law_pot pm__law_pot cd__law_pot ct__law_pot : Value}
    {f__law_draw : Addr} {od__law_draw an__law_draw : Option Addr} {sl__law_draw : Array (Option Value)} {oc__law_draw kV__law_draw dc__law_draw pm__law_draw cd__law_draw ct__law_draw : Value}
    {f__law_pick : Addr} {od__law_pick an__law_pick : Option Addr} {sl__law_pick : Array (Option Value)} {oc__law_pick kV__law_pick dc__law_pick pm__law_pick cd__law_pick ct__law_pick : Value}
    {f__law_words : Addr} {od__law_words an__law_words : Option Addr} {sl__law_words : Array (Option Value)} {oc__law_words kV__law_words dc__law_words pm__law_words cd__law_words ct__law_words : Value}
    {f__law_pairs : Addr} {od__law_pairs an__law_pairs : Option Addr} {sl__law_pairs : Array (Option Value)} {oc__law_pairs kV__law_pairs dc__law_pairs pm__law_pairs cd__law_pairs ct__law_pairs : Value}
    {f__law_turned_round : Addr} {od__law_turned_round an__law_turned_round : Option Addr} {sl__law_turned_round : Array (Option Value)} {oc__law_turned_round kV__law_turned_round dc__law_turned_round pm__law_turned_round cd__law_turned_round ct__law_turned_round : Value}
    {f__law_parts : Addr} {od__law_parts an__law_parts : Option Addr} {sl__law_parts : Array (Option Value)} {oc__law_parts kV__law_parts dc__law_parts pm__law_parts cd__law_parts ct__law_parts : Value}
    {f__law_is_name : Addr} {od__law_is_name an__law_is_name : Option Addr} {sl__law_is_name : Array (Option Value)} {oc__law_is_name kV__law_is_name dc__law_is_name pm__law_is_name cd__law_is_name ct__law_is_name : Value}
    {f__law_are_pairs : Addr} {od__law_are_pairs an__law_are_pairs : Option Addr} {sl__law_are_pairs : Array (Option Value)} {oc__law_are_pairs kV__law_are_pairs dc__law_are_pairs pm__law_are_pairs cd__law_are_pairs ct__law_are_pairs : Value}
    {f__law_are_members : Addr} {od__law_are_members an__law_are_members : Option Addr} {sl__law_are_members : Array (Option Value)} {oc__law_are_members kV__law_are_members dc__law_are_members pm__law_are_members cd__law_are_members ct__law_are_members : Value}
    {f__law_is_circle : Addr} {od__law_is_circle an__law_is_circle : Option Addr} {sl__law_is_circle : Array (Option Value)} {oc__law_is_circle kV__law_is_circle dc__law_is_circle pm__law_is_circle cd__law_is_circle ct__law_is_circle : Value}
    {f__law_odd : Addr} {od__law_odd an__law_odd : Option Addr} {sl__law_odd : Array (Option Value)} {oc__law_odd kV__law_odd dc__law_odd pm__law_odd cd__law_odd ct__law_odd : Value}
    {f__law_otherwise : Addr} {od__law_otherwise an__law_otherwise : Option Addr} {sl__law_otherwise : Array (Option Value)} {oc__law_otherwise kV__law_otherwise dc__law_otherwise pm__law_otherwise cd__law_otherwise ct__law_otherwise : Value}
    {f__law_exchanged : Addr} {od__law_exchanged an__law_exchanged : Option Addr} {sl__law_exchanged : Array (Option Value)} {oc__law_exchanged kV__law_exchanged dc__law_exchanged pm__law_exchanged cd__law_exchanged ct__law_exchanged : Value}
    {f__law_right : Addr} {od__law_right an__law_right : Option Addr} {sl__law_right : Array (Option Value)} {oc__law_right kV__law_right dc__law_right pm__law_right cd__law_right ct__law_right : Value}
    {f__law_texts : Addr} {od__law_texts an__law_texts : Option Addr} {sl__law_texts : Array (Option Value)} {oc__law_texts kV__law_texts dc__law_texts pm__law_texts cd__law_texts ct__law_texts : Value}
    {f_law : Addr} {od_law an_law : Option Addr} {sl_law : Array (Option Value)} {oc_law kV_law dc_law pm_law cd_law ct_law : Value}
    {tk_LETTERS : Tok}
    {tk_MOST_LETTERS : Tok}
    {tk_MOST_FIGURES : Tok}
    (a_is_name : PySem.W.nsIn K mainGlobals "is_name" = some (some (.ref f_is_name)))
    (l_is_name : K.lookup f_is_name = some ⟨oc_is_name, od_is_name, .func (PySem.W.fnOf "is_name" "is_name" (defArgs s_is_name) (defBody s_is_name) (defScope s_is_name) .none kV_is_name dc_is_name pm_is_name an_is_name cd_is_name ct_is_name), sl_is_name⟩)
    (c_is_name : PySem.W.codeIn K cd_is_name "is_name" = true)
    (k_is_name : PySem.W.keepIn K (.ref f_is_name) = true)
    (a_is_pair : PySem.W.nsIn K mainGlobals "is_pair" = some (some (.ref f_is_pair)))
    (l_is_pair : K.lookup f_is_pair = some ⟨oc_is_pair, od_is_pair, .func (PySem.W.fnOf "is_pair" "is_pair" (defArgs s_is_pair) (defBody s_is_pair) (defScope s_is_pair) .none kV_is_pair dc_is_pair pm_is_pair an_is_pair cd_is_pair ct_is_pair), sl_is_pair⟩)
    (c_is_pair : PySem.W.codeIn K cd_is_pair "is_pair" = true)
    (k_is_pair : PySem.W.keepIn K (.ref f_is_pair) = true)
    (a_does_rise : PySem.W.nsIn K mainGlobals "does_rise" = some (some (.ref f_does_rise)))
    (l_does_rise : K.lookup f_does_rise = some ⟨oc_does_rise, od_does_rise, .func (PySem.W.fnOf "does_rise" "does_rise" (defArgs s_does_rise) (defBody s_does_rise) (defScope s_does_rise) .none kV_does_rise dc_does_rise pm_does_rise an_does_rise cd_does_rise ct_does_rise), sl_does_rise⟩)
    (c_does_rise : PySem.W.codeIn K cd_does_rise "does_rise" = true)
    (k_does_rise : PySem.W.keepIn K (.ref f_does_rise) = true)
    (a_are_pairs : PySem.W.nsIn K mainGlobals "are_pairs" = some (some (.ref f_are_pairs)))
    (l_are_pairs : K.lookup f_are_pairs = some ⟨oc_are_pairs, od_are_pairs, .func (PySem.W.fnOf "are_pairs" "are_pairs" (defArgs s_are_pairs) (defBody s_are_pairs) (defScope s_are_pairs) .none kV_are_pairs dc_are_pairs pm_are_pairs an_are_pairs cd_are_pairs ct_are_pairs), sl_are_pairs⟩)
    (c_are_pairs : PySem.W.codeIn K cd_are_pairs "are_pairs" = true)
    (k_are_pairs : PySem.W.keepIn K (.ref f_are_pairs) = true)
    (a_is_member : PySem.W.nsIn K mainGlobals "is_member" = some (some (.ref f_is_member)))
    (l_is_member : K.lookup f_is_member = some ⟨oc_is_member, od_is_member, .func (PySem.W.fnOf "is_member" "is_member" (defArgs s_is_member) (defBody s_is_member) (defScope s_is_member) .none kV_is_member dc_is_member pm_is_member an_is_member cd_is_member ct_is_member), sl_is_member⟩)
    (c_is_member : PySem.W.codeIn K cd_is_member "is_member" = true)
    (k_is_member : PySem.W.keepIn K (.ref f_is_member) = true)
    (a_are_members : PySem.W.nsIn K mainGlobals "are_members" = some (some (.ref f_are_members)))
    (l_are_members : K.lookup f_are_members = some ⟨oc_are_members, od_are_members, .func (PySem.W.fnOf "are_members" "are_members" (defArgs s_are_members) (defBody s_are_members) (defScope s_are_members) .none kV_are_members dc_are_members pm_are_members an_are_members cd_are_members ct_are_members), sl_are_members⟩)
    (c_are_members : PySem.W.codeIn K cd_are_members "are_members" = true)
    (k_are_members : PySem.W.keepIn K (.ref f_are_members) = true)
    (a_are_years : PySem.W.nsIn K mainGlobals "are_years" = some (some (.ref f_are_years)))
    (l_are_years : K.lookup f_are_years = some ⟨oc_are_years, od_are_years, .func (PySem.W.fnOf "are_years" "are_years" (defArgs s_are_years) (defBody s_are_years) (defScope s_are_years) .none kV_are_years dc_are_years pm_are_years an_are_years cd_are_years ct_are_years), sl_are_years⟩)
    (c_are_years : PySem.W.codeIn K cd_are_years "are_years" = true)
    (k_are_years : PySem.W.keepIn K (.ref f_are_years) = true)
    (a_is_circle : PySem.W.nsIn K mainGlobals "is_circle" = some (some (.ref f_is_circle)))
    (l_is_circle : K.lookup f_is_circle = some ⟨oc_is_circle, od_is_circle, .func (PySem.W.fnOf "is_circle" "is_circle" (defArgs s_is_circle) (defBody s_is_circle) (defScope s_is_circle) .none kV_is_circle dc_is_circle pm_is_circle an_is_circle cd_is_circle ct_is_circle), sl_is_circle⟩)
    (c_is_circle : PySem.W.codeIn K cd_is_circle "is_circle" = true)
    (k_is_circle : PySem.W.keepIn K (.ref f_is_circle) = true)
    (a__law_blend : PySem.W.nsIn K mainGlobals "_law_blend" = some (some (.ref f__law_blend)))
    (l__law_blend : K.lookup f__law_blend = some ⟨oc__law_blend, od__law_blend, .func (PySem.W.fnOf "_law_blend" "_law_blend" (defArgs s__law_blend) (defBody s__law_blend) (defScope s__law_blend) .none kV__law_blend dc__law_blend pm__law_blend an__law_blend cd__law_blend ct__law_blend), sl__law_blend⟩)
    (c__law_blend : PySem.W.codeIn K cd__law_blend "_law_blend" = true)
    (k__law_blend : PySem.W.keepIn K (.ref f__law_blend) = true)
    (a__law_pot : PySem.W.nsIn K mainGlobals "_law_pot" = some (some (.ref f__law_pot)))
    (l__law_pot : K.lookup f__law_pot = some ⟨oc__law_pot, od__law_pot, .func (PySem.W.fnOf "_law_pot" "_law_pot" (defArgs s__law_pot) (defBody s__law_pot) (defScope s__law_pot) .none kV__law_pot dc__law_pot pm__law_pot an__law_pot cd__law_pot ct__law_pot), sl__law_pot⟩)
    (c__law_pot : PySem.W.codeIn K cd__law_pot "_law_pot" = true)
    (k__law_pot : PySem.W.keepIn K (.ref f__law_pot) = true)
    (a__law_draw : PySem.W.nsIn K mainGlobals "_law_draw" = some (some (.ref f__law_draw)))
    (l__law_draw : K.lookup f__law_draw = some ⟨oc__law_draw, od__law_draw, .func (PySem.W.fnOf "_law_draw" "_law_draw" (defArgs s__law_draw) (defBody s__law_draw) (defScope s__law_draw) .none kV__law_draw dc__law_draw pm__law_draw an__law_draw cd__law_draw ct__law_draw), sl__law_draw⟩)
    (c__law_draw : PySem.W.codeIn K cd__law_draw "_law_draw" = true)
    (k__law_draw : PySem.W.keepIn K (.ref f__law_draw) = true)
    (a__law_pick : PySem.W.nsIn K mainGlobals "_law_pick" = some (some (.ref f__law_pick)))
    (l__law_pick : K.lookup f__law_pick = some ⟨oc__law_pick, od__law_pick, .func (PySem.W.fnOf "_law_pick" "_law_pick" (defArgs s__law_pick) (defBody s__law_pick) (defScope s__law_pick) .none kV__law_pick dc__law_pick pm__law_pick an__law_pick cd__law_pick ct__law_pick), sl__law_pick⟩)
    (c__law_pick : PySem.W.codeIn K cd__law_pick "_law_pick" = true)
    (k__law_pick : PySem.W.keepIn K (.ref f__law_pick) = true)
    (a__law_words : PySem.W.nsIn K mainGlobals "_law_words" = some (some (.ref f__law_words)))
    (l__law_words : K.lookup f__law_words = some ⟨oc__law_words, od__law_words, .func (PySem.W.fnOf "_law_words" "_law_words" (defArgs s__law_words) (defBody s__law_words) (defScope s__law_words) .none kV__law_words dc__law_words pm__law_words an__law_words cd__law_words ct__law_words), sl__law_words⟩)
    (c__law_words : PySem.W.codeIn K cd__law_words "_law_words" = true)
    (k__law_words : PySem.W.keepIn K (.ref f__law_words) = true)
    (a__law_pairs : PySem.W.nsIn K mainGlobals "_law_pairs" = some (some (.ref f__law_pairs)))
    (l__law_pairs : K.lookup f__law_pairs = some ⟨oc__law_pairs, od__law_pairs, .func (PySem.W.fnOf "_law_pairs" "_law_pairs" (defArgs s__law_pairs) (defBody s__law_pairs) (defScope s__law_pairs) .none kV__law_pairs dc__law_pairs pm__law_pairs an__law_pairs cd__law_pairs ct__law_pairs), sl__law_pairs⟩)
    (c__law_pairs : PySem.W.codeIn K cd__law_pairs "_law_pairs" = true)
    (k__law_pairs : PySem.W.keepIn K (.ref f__law_pairs) = true)
    (a__law_turned_round : PySem.W.nsIn K mainGlobals "_law_turned_round" = some (some (.ref f__law_turned_round)))
    (l__law_turned_round : K.lookup f__law_turned_round = some ⟨oc__law_turned_round, od__law_turned_round, .func (PySem.W.fnOf "_law_turned_round" "_law_turned_round" (defArgs s__law_turned_round) (defBody s__law_turned_round) (defScope s__law_turned_round) .none kV__law_turned_round dc__law_turned_round pm__law_turned_round an__law_turned_round cd__law_turned_round ct__law_turned_round), sl__law_turned_round⟩)
    (c__law_turned_round : PySem.W.codeIn K cd__law_turned_round "_law_turned_round" = true)
    (k__law_turned_round : PySem.W.keepIn K (.ref f__law_turned_round) = true)
    (a__law_parts : PySem.W.nsIn K mainGlobals "_law_parts" = some (some (.ref f__law_parts)))
    (l__law_parts : K.lookup f__law_parts = some ⟨oc__law_parts, od__law_parts, .func (PySem.W.fnOf "_law_parts" "_law_parts" (defArgs s__law_parts) (defBody s__law_parts) (defScope s__law_parts) .none kV__law_parts dc__law_parts pm__law_parts an__law_parts cd__law_parts ct__law_parts), sl__law_parts⟩)
    (c__law_parts : PySem.W.codeIn K cd__law_parts "_law_parts" = true)
    (k__law_parts : PySem.W.keepIn K (.ref f__law_parts) = true)
    (a__law_is_name : PySem.W.nsIn K mainGlobals "_law_is_name" = some (some (.ref f__law_is_name)))
    (l__law_is_name : K.lookup f__law_is_name = some ⟨oc__law_is_name, od__law_is_name, .func (PySem.W.fnOf "_law_is_name" "_law_is_name" (defArgs s__law_is_name) (defBody s__law_is_name) (defScope s__law_is_name) .none kV__law_is_name dc__law_is_name pm__law_is_name an__law_is_name cd__law_is_name ct__law_is_name), sl__law_is_name⟩)
    (c__law_is_name : PySem.W.codeIn K cd__law_is_name "_law_is_name" = true)
    (k__law_is_name : PySem.W.keepIn K (.ref f__law_is_name) = true)
    (a__law_are_pairs : PySem.W.nsIn K mainGlobals "_law_are_pairs" = some (some (.ref f__law_are_pairs)))
    (l__law_are_pairs : K.lookup f__law_are_pairs = some ⟨oc__law_are_pairs, od__law_are_pairs, .func (PySem.W.fnOf "_law_are_pairs" "_law_are_pairs" (defArgs s__law_are_pairs) (defBody s__law_are_pairs) (defScope s__law_are_pairs) .none kV__law_are_pairs dc__law_are_pairs pm__law_are_pairs an__law_are_pairs cd__law_are_pairs ct__law_are_pairs), sl__law_are_pairs⟩)
    (c__law_are_pairs : PySem.W.codeIn K cd__law_are_pairs "_law_are_pairs" = true)
    (k__law_are_pairs : PySem.W.keepIn K (.ref f__law_are_pairs) = true)
    (a__law_are_members : PySem.W.nsIn K mainGlobals "_law_are_members" = some (some (.ref f__law_are_members)))
    (l__law_are_members : K.lookup f__law_are_members = some ⟨oc__law_are_members, od__law_are_members, .func (PySem.W.fnOf "_law_are_members" "_law_are_members" (defArgs s__law_are_members) (defBody s__law_are_members) (defScope s__law_are_members) .none kV__law_are_members dc__law_are_members pm__law_are_members an__law_are_members cd__law_are_members ct__law_are_members), sl__law_are_members⟩)
    (c__law_are_members : PySem.W.codeIn K cd__law_are_members "_law_are_members" = true)
    (k__law_are_members : PySem.W.keepIn K (.ref f__law_are_members) = true)
    (a__law_is_circle : PySem.W.nsIn K mainGlobals "_law_is_circle" = some (some (.ref f__law_is_circle)))
    (l__law_is_circle : K.lookup f__law_is_circle = some ⟨oc__law_is_circle, od__law_is_circle, .func (PySem.W.fnOf "_law_is_circle" "_law_is_circle" (defArgs s__law_is_circle) (defBody s__law_is_circle) (defScope s__law_is_circle) .none kV__law_is_circle dc__law_is_circle pm__law_is_circle an__law_is_circle cd__law_is_circle ct__law_is_circle), sl__law_is_circle⟩)
    (c__law_is_circle : PySem.W.codeIn K cd__law_is_circle "_law_is_circle" = true)
    (k__law_is_circle : PySem.W.keepIn K (.ref f__law_is_circle) = true)
    (a__law_odd : PySem.W.nsIn K mainGlobals "_law_odd" = some (some (.ref f__law_odd)))
    (l__law_odd : K.lookup f__law_odd = some ⟨oc__law_odd, od__law_odd, .func (PySem.W.fnOf "_law_odd" "_law_odd" (defArgs s__law_odd) (defBody s__law_odd) (defScope s__law_odd) .none kV__law_odd dc__law_odd pm__law_odd an__law_odd cd__law_odd ct__law_odd), sl__law_odd⟩)
    (c__law_odd : PySem.W.codeIn K cd__law_odd "_law_odd" = true)
    (k__law_odd : PySem.W.keepIn K (.ref f__law_odd) = true)
    (a__law_otherwise : PySem.W.nsIn K mainGlobals "_law_otherwise" = some (some (.ref f__law_otherwise)))
    (l__law_otherwise : K.lookup f__law_otherwise = some ⟨oc__law_otherwise, od__law_otherwise, .func (PySem.W.fnOf "_law_otherwise" "_law_otherwise" (defArgs s__law_otherwise) (defBody s__law_otherwise) (defScope s__law_otherwise) .none kV__law_otherwise dc__law_otherwise pm__law_otherwise an__law_otherwise cd__law_otherwise ct__law_otherwise), sl__law_otherwise⟩)
    (c__law_otherwise : PySem.W.codeIn K cd__law_otherwise "_law_otherwise" = true)
    (k__law_otherwise : PySem.W.keepIn K (.ref f__law_otherwise) = true)
    (a__law_exchanged : PySem.W.nsIn K mainGlobals "_law_exchanged" = some (some (.ref f__law_exchanged)))
    (l__law_exchanged : K.lookup f__law_exchanged = some ⟨oc__law_exchanged, od__law_exchanged, .func (PySem.W.fnOf "_law_exchanged" "_law_exchanged" (defArgs s__law_exchanged) (defBody s__law_exchanged) (defScope s__law_exchanged) .none kV__law_exchanged dc__law_exchanged pm__law_exchanged an__law_exchanged cd__law_exchanged ct__law_exchanged), sl__law_exchanged⟩)
    (c__law_exchanged : PySem.W.codeIn K cd__law_exchanged "_law_exchanged" = true)
    (k__law_exchanged : PySem.W.keepIn K (.ref f__law_exchanged) = true)
    (a__law_right : PySem.W.nsIn K mainGlobals "_law_right" = some (some (.ref f__law_right)))
    (l__law_right : K.lookup f__law_right = some ⟨oc__law_right, od__law_right, .func (PySem.W.fnOf "_law_right" "_law_right" (defArgs s__law_right) (defBody s__law_right) (defScope s__law_right) .none kV__law_right dc__law_right pm__law_right an__law_right cd__law_right ct__law_right), sl__law_right⟩)
    (c__law_right : PySem.W.codeIn K cd__law_right "_law_right" = true)
    (k__law_right : PySem.W.keepIn K (.ref f__law_right) = true)
    (a__law_texts : PySem.W.nsIn K mainGlobals "_law_texts" = some (some (.ref f__law_texts)))
    (l__law_texts : K.lookup f__law_texts = some ⟨oc__law_texts, od__law_texts, .func (PySem.W.fnOf "_law_texts" "_law_texts" (defArgs s__law_texts) (defBody s__law_texts) (defScope s__law_texts) .none kV__law_texts dc__law_texts pm__law_texts an__law_texts cd__law_texts ct__law_texts), sl__law_texts⟩)
    (c__law_texts : PySem.W.codeIn K cd__law_texts "_law_texts" = true)
    (k__law_texts : PySem.W.keepIn K (.ref f__law_texts) = true)
    (a_law : PySem.W.nsIn K mainGlobals "law" = some (some (.ref f_law)))
    (l_law : K.lookup f_law = some ⟨oc_law, od_law, .func (PySem.W.fnOf "law" "law" (defArgs s_law) (defBody s_law) (defScope s_law) .none kV_law dc_law pm_law an_law cd_law ct_law), sl_law⟩)
    (c_law : PySem.W.codeIn K cd_law "law" = true)
    (k_law : PySem.W.keepIn K (.ref f_law) = true)
    (g_LETTERS : PySem.W.nsIn K mainGlobals "LETTERS" = some (some (.str "abcdefghijklmnopqrstuvwxyz" tk_LETTERS)))
    (g_MOST_LETTERS : PySem.W.nsIn K mainGlobals "MOST_LETTERS" = some (some (.int 12 tk_MOST_LETTERS)))
    (g_MOST_FIGURES : PySem.W.nsIn K mainGlobals "MOST_FIGURES" = some (some (.int 30 tk_MOST_FIGURES)))
    (n_len : PySem.W.nsIn K mainGlobals "len" = some none)
    (n_abs : PySem.W.nsIn K mainGlobals "abs" = some none)
    (n_all : PySem.W.nsIn K mainGlobals "all" = some none)
    (n_range : PySem.W.nsIn K mainGlobals "range" = some none)
    (n_isinstance : PySem.W.nsIn K mainGlobals "isinstance" = some none)
    (n_list : PySem.W.nsIn K mainGlobals "list" = some none)
    (n_tuple : PySem.W.nsIn K mainGlobals "tuple" = some none)
    (n_str : PySem.W.nsIn K mainGlobals "str" = some none)
    (n_sorted : PySem.W.nsIn K mainGlobals "sorted" = some none)
    (n_zip : PySem.W.nsIn K mainGlobals "zip" = some none)
    (n_set : PySem.W.nsIn K mainGlobals "set" = some none)
    (n_max : PySem.W.nsIn K mainGlobals "max" = some none)
    (n_min : PySem.W.nsIn K mainGlobals "min" = some none)
    (n_int : PySem.W.nsIn K mainGlobals "int" = some none)
    (n_bool : PySem.W.nsIn K mainGlobals "bool" = some none) : T01 K mg := {
  f_is_name := f_is_name
  fd_is_name := _
  F_is_name := fun_mk (st := s_is_name) l_is_name c_is_name k_is_name
  b_is_name := (fun_mk (st := s_is_name) l_is_name c_is_name k_is_name).binds (ps := ["thing"]) fun _ _ _ _ _ _ us hl => match us, hl with | [_], _ => rfl
  mg_is_name := PySem.W.mg_of X G a_is_name
  f_is_pair := f_is_pair
  fd_is_pair := _
  F_is_pair := fun_mk (st := s_is_pair) l_is_pair c_is_pair k_is_pair
  b_is_pair := (fun_mk (st := s_is_pair) l_is_pair c_is_pair k_is_pair).binds (ps := ["thing"]) fun _ _ _ _ _ _ us hl => match us, hl with | [_], _ => rfl
  mg_is_pair := PySem.W.mg_of X G a_is_pair
  f_does_rise := f_does_rise
  fd_does_rise := _
  F_does_rise := fun_mk (st := s_does_rise) l_does_rise c_does_rise k_does_rise
  b_does_rise := (fun_mk (st := s_does_rise) l_does_rise c_does_rise k_does_rise).binds (ps := ["things"]) fun _ _ _ _ _ _ us hl => match us, hl with | [_], _ => rfl
  mg_does_rise := PySem.W.mg_of X G a_does_rise
  f_are_pairs := f_are_pairs
  fd_are_pairs := _
  F_are_pairs := fun_mk (st := s_are_pairs) l_are_pairs c_are_pairs k_are_pairs
  b_are_pairs := (fun_mk (st := s_are_pairs) l_are_pairs c_are_pairs k_are_pairs).binds (ps := ["thing"]) fun _ _ _ _ _ _ us hl => match us, hl with | [_], _ => rfl
  mg_are_pairs := PySem.W.mg_of X G a_are_pairs
  f_is_member := f_is_member
  fd_is_member := _
  F_is_member := fun_mk (st := s_is_member) l_is_member c_is_member k_is_member
  b_is_member := (fun_mk (st := s_is_member) l_is_member c_is_member k_is_member).binds (ps := ["thing"]) fun _ _ _ _ _ _ us hl => match us, hl with | [_], _ => rfl
  mg_is_member := PySem.W.mg_of X G a_is_member
  f_are_members := f_are_members
  fd_are_members := _
  F_are_members := fun_mk (st := s_are_members) l_are_members c_are_members k_are_members
  b_are_members := (fun_mk (st := s_are_members) l_are_members c_are_members k_are_members).binds (ps := ["thing"]) fun _ _ _ _ _ _ us hl => match us, hl with | [_], _ => rfl
  mg_are_members := PySem.W.mg_of X G a_are_members
  f_are_years := f_are_years
  fd_are_years := _
  F_are_years := fun_mk (st := s_are_years) l_are_years c_are_years k_are_years
  b_are_years := (fun_mk (st := s_are_years) l_are_years c_are_years k_are_years).binds (ps := ["thing"]) fun _ _ _ _ _ _ us hl => match us, hl with | [_], _ => rfl
  mg_are_years := PySem.W.mg_of X G a_are_years
  f_is_circle := f_is_circle
  fd_is_circle := _
  F_is_circle := fun_mk (st := s_is_circle) l_is_circle c_is_circle k_is_circle
  b_is_circle := (fun_mk (st := s_is_circle) l_is_circle c_is_circle k_is_circle).binds (ps := ["members", "bars", "past", "gap"]) fun _ _ _ _ _ _ us hl => match us, hl with | [_, _, _, _], _ => rfl
  mg_is_circle := PySem.W.mg_of X G a_is_circle
  f__law_blend := f__law_blend
  fd__law_blend := _
  F__law_blend := fun_mk (st := s__law_blend) l__law_blend c__law_blend k__law_blend
  b__law_blend := (fun_mk (st := s__law_blend) l__law_blend c__law_blend k__law_blend).binds (ps := ["_law_number", "_law_turn"]) fun _ _ _ _ _ _ us hl => match us, hl with | [_, _], _ => rfl
  mg__law_blend := PySem.W.mg_of X G a__law_blend
  f__law_pot := f__law_pot
  fd__law_pot := _
  F__law_pot := fun_mk (st := s__law_pot) l__law_pot c__law_pot k__law_pot
  b__law_pot := (fun_mk (st := s__law_pot) l__law_pot c__law_pot k__law_pot).binds (ps := ["_law_script"]) fun _ _ _ _ _ _ us hl => match us, hl with | [_], _ => rfl
  mg__law_pot := PySem.W.mg_of X G a__law_pot
  f__law_draw := f__law_draw
  fd__law_draw := _
  F__law_draw := fun_mk (st := s__law_draw) l__law_draw c__law_draw k__law_draw
  b__law_draw := (fun_mk (st := s__law_draw) l__law_draw c__law_draw k__law_draw).binds (ps := ["_law_pot_here", "_law_size"]) fun _ _ _ _ _ _ us hl => match us, hl with | [_, _], _ => rfl
  mg__law_draw := PySem.W.mg_of X G a__law_draw
  f__law_pick := f__law_pick
  fd__law_pick := _
  F__law_pick := fun_mk (st := s__law_pick) l__law_pick c__law_pick k__law_pick
  b__law_pick := (fun_mk (st := s__law_pick) l__law_pick c__law_pick k__law_pick).binds (ps := ["_law_pot_here", "_law_some"]) fun _ _ _ _ _ _ us hl => match us, hl with | [_, _], _ => rfl
  mg__law_pick := PySem.W.mg_of X G a__law_pick
  f__law_words := f__law_words
  fd__law_words := _
  F__law_words := fun_mk (st := s__law_words) l__law_words c__law_words k__law_words
  b__law_words := (fun_mk (st := s__law_words) l__law_words c__law_words k__law_words).binds (ps := ["_law_pot_here", "_law_size"]) fun _ _ _ _ _ _ us hl => match us, hl with | [_, _], _ => rfl
  mg__law_words := PySem.W.mg_of X G a__law_words
  f__law_pairs := f__law_pairs
  fd__law_pairs := _
  F__law_pairs := fun_mk (st := s__law_pairs) l__law_pairs c__law_pairs k__law_pairs
  b__law_pairs := (fun_mk (st := s__law_pairs) l__law_pairs c__law_pairs k__law_pairs).binds (ps := ["_law_pot_here", "_law_pool", "_law_size"]) fun _ _ _ _ _ _ us hl => match us, hl with | [_, _, _], _ => rfl
  mg__law_pairs := PySem.W.mg_of X G a__law_pairs
  f__law_turned_round := f__law_turned_round
  fd__law_turned_round := _
  F__law_turned_round := fun_mk (st := s__law_turned_round) l__law_turned_round c__law_turned_round k__law_turned_round
  b__law_turned_round := (fun_mk (st := s__law_turned_round) l__law_turned_round c__law_turned_round k__law_turned_round).binds (ps := ["_law_pot_here", "_law_some"]) fun _ _ _ _ _ _ us hl => match us, hl with | [_, _], _ => rfl
  mg__law_turned_round := PySem.W.mg_of X G a__law_turned_round
  f__law_parts := f__law_parts
  fd__law_parts := _
  F__law_parts := fun_mk (st := s__law_parts) l__law_parts c__law_parts k__law_parts
  b__law_parts := (fun_mk (st := s__law_parts) l__law_parts c__law_parts k__law_parts).binds (ps := ["_law_pot_here", "_law_most"]) fun _ _ _ _ _ _ us hl => match us, hl with | [_, _], _ => rfl
  mg__law_parts := PySem.W.mg_of X G a__law_parts
  f__law_is_name := f__law_is_name
  fd__law_is_name := _
  F__law_is_name := fun_mk (st := s__law_is_name) l__law_is_name c__law_is_name k__law_is_name
  b__law_is_name := (fun_mk (st := s__law_is_name) l__law_is_name c__law_is_name k__law_is_name).binds (ps := ["_law_thing"]) fun _ _ _ _ _ _ us hl => match us, hl with | [_], _ => rfl
  mg__law_is_name := PySem.W.mg_of X G a__law_is_name
  f__law_are_pairs := f__law_are_pairs
  fd__law_are_pairs := _
  F__law_are_pairs := fun_mk (st := s__law_are_pairs) l__law_are_pairs c__law_are_pairs k__law_are_pairs
  b__law_are_pairs := (fun_mk (st := s__law_are_pairs) l__law_are_pairs c__law_are_pairs k__law_are_pairs).binds (ps := ["_law_thing"]) fun _ _ _ _ _ _ us hl => match us, hl with | [_], _ => rfl
  mg__law_are_pairs := PySem.W.mg_of X G a__law_are_pairs
  f__law_are_members := f__law_are_members
  fd__law_are_members := _
  F__law_are_members := fun_mk (st := s__law_are_members) l__law_are_members c__law_are_members k__law_are_members
  b__law_are_members := (fun_mk (st := s__law_are_members) l__law_are_members c__law_are_members k__law_are_members).binds (ps := ["_law_thing"]) fun _ _ _ _ _ _ us hl => match us, hl with | [_], _ => rfl
  mg__law_are_members := PySem.W.mg_of X G a__law_are_members
  f__law_is_circle := f__law_is_circle
  fd__law_is_circle := _
  F__law_is_circle := fun_mk (st := s__law_is_circle) l__law_is_circle c__law_is_circle k__law_is_circle
  b__law_is_circle := (fun_mk (st := s__law_is_circle) l__law_is_circle c__law_is_circle k__law_is_circle).binds (ps := ["_law_four"]) fun _ _ _ _ _ _ us hl => match us, hl with | [_], _ => rfl
  mg__law_is_circle := PySem.W.mg_of X G a__law_is_circle
  f__law_odd := f__law_odd
  fd__law_odd := _
  F__law_odd := fun_mk (st := s__law_odd) l__law_odd c__law_odd k__law_odd
  b__law_odd := (fun_mk (st := s__law_odd) l__law_odd c__law_odd k__law_odd).binds (ps := ["_law_pot_here", "_law_thing"]) fun _ _ _ _ _ _ us hl => match us, hl with | [_, _], _ => rfl
  mg__law_odd := PySem.W.mg_of X G a__law_odd
  f__law_otherwise := f__law_otherwise
  fd__law_otherwise := _
  F__law_otherwise := fun_mk (st := s__law_otherwise) l__law_otherwise c__law_otherwise k__law_otherwise
  b__law_otherwise := (fun_mk (st := s__law_otherwise) l__law_otherwise c__law_otherwise k__law_otherwise).binds (ps := ["_law_pot_here", "_law_thing"]) fun _ _ _ _ _ _ us hl => match us, hl with | [_, _], _ => rfl
  mg__law_otherwise := PySem.W.mg_of X G a__law_otherwise
  f__law_exchanged := f__law_exchanged
  fd__law_exchanged := _
  F__law_exchanged := fun_mk (st := s__law_exchanged) l__law_exchanged c__law_exchanged k__law_exchanged
  b__law_exchanged := (fun_mk (st := s__law_exchanged) l__law_exchanged c__law_exchanged k__law_exchanged).binds (ps := ["_law_pot_here", "_law_row"]) fun _ _ _ _ _ _ us hl => match us, hl with | [_, _], _ => rfl
  mg__law_exchanged := PySem.W.mg_of X G a__law_exchanged
  f__law_right := f__law_right
  fd__law_right := _
  F__law_right := fun_mk (st := s__law_right) l__law_right c__law_right k__law_right
  b__law_right := (fun_mk (st := s__law_right) l__law_right c__law_right k__law_right).binds (ps := ["_law_four"]) fun _ _ _ _ _ _ us hl => match us, hl with | [_], _ => rfl
  mg__law_right := PySem.W.mg_of X G a__law_right
  f__law_texts := f__law_texts
  fd__law_texts := _
  F__law_texts := fun_mk (st := s__law_texts) l__law_texts c__law_texts k__law_texts
  b__law_texts := (fun_mk (st := s__law_texts) l__law_texts c__law_texts k__law_texts).binds (ps := ["_law_pot_here"]) fun _ _ _ _ _ _ us hl => match us, hl with | [_], _ => rfl
  mg__law_texts := PySem.W.mg_of X G a__law_texts
  f_law := f_law
  fd_law := _
  F_law := fun_mk (st := s_law) l_law c_law k_law
  b_law := (fun_mk (st := s_law) l_law c_law k_law).binds (ps := ["_law_script"]) fun _ _ _ _ _ _ us hl => match us, hl with | [_], _ => rfl
  mg_law := PySem.W.mg_of X G a_law
  tk_LETTERS := tk_LETTERS
  mg_LETTERS := PySem.W.mg_of X G g_LETTERS
  tk_MOST_LETTERS := tk_MOST_LETTERS
  mg_MOST_LETTERS := PySem.W.mg_of X G g_MOST_LETTERS
  tk_MOST_FIGURES := tk_MOST_FIGURES
  mg_MOST_FIGURES := PySem.W.mg_of X G g_MOST_FIGURES
  n_len := PySem.W.mg_none_of X G n_len
  n_abs := PySem.W.mg_none_of X G n_abs
  n_all := PySem.W.mg_none_of X G n_all
  n_range := PySem.W.mg_none_of X G n_range
  n_isinstance := PySem.W.mg_none_of X G n_isinstance
  n_list := PySem.W.mg_none_of X G n_list
  n_tuple := PySem.W.mg_none_of X G n_tuple
  n_str := PySem.W.mg_none_of X G n_str
  n_sorted := PySem.W.mg_none_of X G n_sorted
  n_zip := PySem.W.mg_none_of X G n_zip
  n_set := PySem.W.mg_none_of X G n_set
  n_max := PySem.W.mg_none_of X G n_max
  n_min := PySem.W.mg_none_of X G n_min
  n_int := PySem.W.mg_none_of X G n_int
  n_bool := PySem.W.mg_none_of X G n_bool }
end K01

/-! the plain law: rows of pairs, read in two ways -/
namespace K59
open PySem PySem.Spec PyProof.Rows L2 MP TL
abbrev lets : Str := "abcdefghijklmnopqrstuvwxyz"
def isL (c : Nat) : Bool := decide (c ∈ lets.cps.toList)
def nm (x : Str) : Bool := decide (1 ≤ x.length ∧ x.length ≤ 12) && (tl x).all isL
abbrev Pr := Str × Str
def slt (a b : Str) : Bool := decide (tl a < tl b)
def givs (ps : List Pr) : List Str := ps.map (·.1)
def taks (ps : List Pr) : List Str := ps.map (·.2)
def still (ps : List Pr) : List Str := (ps.filter fun p => !decide (p.2 ∈ givs ps)).map (·.2)
/-- a giver who is not behind the last one -/
def late (ps : List Pr) (a : Str) : Bool := match ps.getLast? with
  | some p => !slt p.1 a
  | none => false
def mayP (ps : List Pr) (ws : List Str) : Bool := match ws with
  | [a, m, b] => decide (m = ">") && nm a && nm b && !(late ps a || decide (b ∈ taks ps)) && (still (ps ++ [(a, b)])).all fun t => slt a t
  | _ => false
def pairOf (ws : List Str) : Pr := (ws.getD 0 Str.empty, ws.getD 2 Str.empty)
def goP : Nat → List Pr → List Str → Nat ⊕ List Pr
  | _, ps, [] => .inr ps
  | n, ps, r :: rs => if mayP ps (Txt.split r " ") = true then goP (n + 1) (ps ++ [pairOf (Txt.split r " ")]) rs else .inl n
def rowsOf (t : Str) : List Str := if t = Str.empty then [] else Txt.split t "\n"
def readP (t : Str) : Nat ⊕ List Pr := match goP 0 [] (rowsOf t) with
  | .inl n => .inl n
  | .inr ps => if still ps = [] then .inr ps else .inl (rowsOf t).length
def mayL (ps : List Pr) (ws : List Str) : Bool := match ws with
  | [a, b] => nm a && nm b && !(late ps a || decide (b ∈ taks ps))
  | _ => false
def pairOfL (ws : List Str) : Pr := (ws.getD 0 Str.empty, ws.getD 1 Str.empty)
def badL (ps : List Pr) (a : Str) : Bool := ps.any fun p => slt p.2 a && !decide (p.2 ∈ givs ps)
def goL : Nat → List Pr → List Str → Nat ⊕ List Pr
  | _, ps, [] => .inr ps
  | n, ps, r :: rs => if mayL ps (Txt.split r " > ") = true then (if badL (ps ++ [pairOfL (Txt.split r " > ")]) (pairOfL (Txt.split r " > ")).1 = true then .inl n else goL (n + 1) (ps ++ [pairOfL (Txt.split r " > ")]) rs) else .inl n
def readL (t : Str) : Nat ⊕ List Pr := match goL 0 [] (rowsOf t) with
  | .inl n => .inl n
  | .inr ps => if (ps.any fun p => !decide (p.2 ∈ givs ps)) = true then .inl (rowsOf t).length else .inr ps
/-! ### texts -/
theorem slt_irrefl (a : Str) : slt a a = false := decide_eq_false (List.lt_irrefl _)
theorem slt_tri {a b : Str} (h : a ≠ b) : slt a b = !slt b a := by
  unfold slt
  by_cases h1 : tl a < tl b
  · rw [decide_eq_true h1, decide_eq_false (List.lt_asymm h1)]; rfl
  · by_cases h2 : tl b < tl a
    · rw [decide_eq_true h2, decide_eq_false h1]; rfl
    · exact absurd (ext_tl (List.le_antisymm (List.not_lt.mp h2) (List.not_lt.mp h1))) h
theorem slt_trans {a b c : Str} (h1 : slt a b = true) (h2 : slt b c = true) : slt a c = true :=
  decide_eq_true (List.lt_trans (of_decide_eq_true h1) (of_decide_eq_true h2))
theorem slt_ne {a b : Str} (h : slt a b = true) : a ≠ b := fun e => by rw [e, slt_irrefl] at h; cases h
theorem tl_gt : tl (">" : Str) = [62] := by decide
theorem tl_sp : tl (" " : Str) = [32] := by decide
theorem tl_spgt : tl (" > " : Str) = [32, 62, 32] := by decide
theorem no_sp : isL 32 = false := by decide
theorem nm_free {x : Str} (h : nm x = true) : 32 ∉ tl x := fun z => by
  unfold nm at h
  rw [Bool.and_eq_true, List.all_eq_true] at h
  have := h.2 _ z
  rw [no_sp] at this
  cases this
theorem split_sp {a b : Str} (ha : nm a = true) (hb : nm b = true) : Txt.split (a ++ " > " ++ b) " " = [a, ">", b] := by
  have h := split_join (y := " ") (s := 32) (S := []) tl_sp (by decide +kernel) (parts := [a, ">", b]) (by simp) (fun p hp => by
    simp only [List.mem_cons, List.not_mem_nil, or_false] at hp
    rcases hp with rfl | rfl | rfl
    · exact nm_free ha
    · rw [tl_gt]; decide
    · exact nm_free hb)
  have e : Txt.join " " [a, ">", b] = a ++ " > " ++ b := by
    rw [join_eq]
    refine ext_tl ?_
    rw [tl_join, tl_append, tl_append, tl_spgt]
    simp only [List.map_cons, List.map_nil, joinL, tl_sp, tl_gt]
    simp
  rw [e] at h
  exact h
theorem split_spgt {a b : Str} (ha : nm a = true) (hb : nm b = true) : Txt.split (a ++ " > " ++ b) " > " = [a, b] := by
  have h := split_join (y := " > ") (s := 32) (S := [62, 32]) tl_spgt (by decide +kernel) (parts := [a, b]) (by simp) (fun p hp => by
    simp only [List.mem_cons, List.not_mem_nil, or_false] at hp
    rcases hp with rfl | rfl
    · exact nm_free ha
    · exact nm_free hb)
  have e : Txt.join " > " [a, b] = a ++ " > " ++ b := by
    rw [join_eq]
    rfl
  rw [e] at h
  exact h
theorem of_sp {r a b : Str} (h : Txt.split r " " = [a, ">", b]) : r = a ++ " > " ++ b := by
  have e := StrLaws.join_split r " "
  rw [h] at e
  rw [← e]
  refine ext_tl ?_
  rw [tl_join, tl_append, tl_append, tl_spgt]
  simp only [List.map_cons, List.map_nil, joinL, tl_sp, tl_gt]
  simp
theorem of_spgt {r a b : Str} (h : Txt.split r " > " = [a, b]) : r = a ++ " > " ++ b := by
  have e := StrLaws.join_split r " > "
  rw [h] at e
  exact e.symm
/-! ### one row -/
theorem still_bad {ps : List Pr} {a : Str} (ha : a ∈ givs ps) : ((still ps).all fun t => slt a t) = !badL ps a := by
  unfold still badL
  rw [List.all_map, List.all_filter, Bool.eq_iff_iff]
  simp only [List.all_eq_true, Bool.not_eq_true', List.any_eq_false]
  constructor
  · intro h p hp
    have := h p hp
    by_cases q : p.2 ∈ givs ps
    · simp [q]
    · have hne : a ≠ p.2 := fun e => q (e ▸ ha)
      have t : slt a p.2 = true := by simpa [q] using this
      rw [slt_tri hne] at t
      simp only [Bool.not_eq_true'] at t
      simp [t]
  · intro h p hp
    have := h p hp
    by_cases q : p.2 ∈ givs ps
    · simp [q]
    · have hne : a ≠ p.2 := fun e => q (e ▸ ha)
      have t : slt p.2 a = false := by simpa [q] using this
      have t2 : slt a p.2 = true := by rw [slt_tri hne, t]; rfl
      simp [q, t2]
theorem row_eq (ps : List Pr) (r : Str) : (∃ a b, nm a = true ∧ nm b = true ∧ Txt.split r " " = [a, ">", b] ∧ Txt.split r " > " = [a, b]) ∨ (mayP ps (Txt.split r " ") = false ∧ mayL ps (Txt.split r " > ") = false) := by
  by_cases h : ∃ a b, nm a = true ∧ nm b = true ∧ r = a ++ " > " ++ b
  · obtain ⟨a, b, ha, hb, rfl⟩ := h
    exact .inl ⟨a, b, ha, hb, split_sp ha hb, split_spgt ha hb⟩
  · refine .inr ⟨?_, ?_⟩
    · cases q : mayP ps (Txt.split r " ") with
      | false => rfl
      | true =>
        refine absurd ?_ h
        unfold mayP at q
        split at q
        · rename_i a m b e
          simp only [Bool.and_eq_true, decide_eq_true_eq] at q
          obtain ⟨⟨⟨⟨hm, ha⟩, hb⟩, _⟩, _⟩ := q
          subst hm
          exact ⟨a, b, ha, hb, of_sp e⟩
        · cases q
    · cases q : mayL ps (Txt.split r " > ") with
      | false => rfl
      | true =>
        refine absurd ?_ h
        unfold mayL at q
        split at q
        · rename_i a b e
          simp only [Bool.and_eq_true] at q
          obtain ⟨⟨ha, hb⟩, _⟩ := q
          exact ⟨a, b, ha, hb, of_spgt e⟩
        · cases q
theorem go_eq : ∀ (rs : List Str) (n : Nat) (ps : List Pr), goP n ps rs = goL n ps rs
  | [], n, ps => rfl
  | r :: rs, n, ps => by
    unfold goP goL
    rcases row_eq ps r with ⟨a, b, ha, hb, e1, e2⟩ | ⟨e1, e2⟩
    · rw [e1, e2]
      have p1 : pairOf [a, ">", b] = (a, b) := rfl
      have p2 : pairOfL [a, b] = (a, b) := rfl
      rw [p1, p2]
      have hm : mayP ps [a, ">", b] = (mayL ps [a, b] && !badL (ps ++ [(a, b)]) a) := by
        unfold mayP mayL
        dsimp only
        rw [still_bad (ps := ps ++ [(a, b)]) (a := a) (by simp [givs]), decide_eq_true rfl, Bool.true_and]
      rw [hm]
      cases mayL ps [a, b] with
      | false => rfl
      | true =>
        cases badL (ps ++ [(a, b)]) a with
        | true => rfl
        | false => exact go_eq rs (n + 1) _
    · rw [e1, e2]; rfl
theorem read_eq (t : Str) : readP t = readL t := by
  unfold readP readL
  rw [go_eq]
  cases goL 0 [] (rowsOf t) with
  | inl n => rfl
  | inr ps =>
    dsimp only
    have e : (still ps = []) ↔ ¬ ((ps.any fun p => !decide (p.2 ∈ givs ps)) = true) := by
      unfold still
      rw [List.map_eq_nil_iff, List.filter_eq_nil_iff, List.any_eq_true]
      constructor
      · rintro h ⟨p, hp, q⟩; exact h p hp q
      · intro h p hp q; exact h ⟨p, hp, q⟩
    by_cases h : still ps = []
    · rw [if_pos h, if_neg (e.mp h)]
    · rw [if_neg h, if_pos (Classical.not_not.mp fun z => h (e.mpr z))]
/-! ### what is read is drawn -/
structure Ok (ps : List Pr) : Prop where
  nm : ∀ p ∈ ps, K59.nm p.1 = true ∧ K59.nm p.2 = true
  ri : (givs ps).Pairwise fun a b => slt a b = true
  nd : (taks ps).Nodup
theorem ok_snoc {ps : List Pr} {a b : Str} (h : Ok ps) (ha : K59.nm a = true) (hb : K59.nm b = true) (hl : late ps a = false) (ht : b ∉ taks ps) : Ok (ps ++ [(a, b)]) := by
  refine ⟨fun p hp => ?_, ?_, ?_⟩
  · rcases List.mem_append.mp hp with hp | hp
    · exact h.nm p hp
    · rw [List.mem_singleton.mp hp]; exact ⟨ha, hb⟩
  · unfold givs
    rw [List.map_append, List.pairwise_append]
    refine ⟨h.ri, by simp, fun x hx y hy => ?_⟩
    have ey : y = a := by simpa using hy
    subst ey
    rcases List.eq_nil_or_concat ps with e | ⟨qs, q, e⟩
    · subst e; simp at hx
    · have e' : ps = qs ++ [q] := by rw [e, List.concat_eq_append]
      subst e'
      have hq : slt q.1 y = true := by
        unfold late at hl
        rw [List.getLast?_append] at hl
        simpa using hl
      have hri := h.ri
      unfold givs at hri
      rw [List.map_append, List.pairwise_append] at hri
      rw [List.map_append] at hx
      rcases List.mem_append.mp hx with hx | hx
      · exact slt_trans (hri.2.2 x hx q.1 (by simp)) hq
      · have : x = q.1 := by simpa using hx
        rw [this]; exact hq
  · unfold taks
    rw [List.map_append]
    exact List.nodup_append.mpr ⟨h.nd, by simp, fun x hx y hy e => ht (by
      have : y = b := by simpa using hy
      rw [← this, ← e]; exact hx)⟩
theorem ok_go : ∀ (rs : List Str) (n : Nat) (ps qs : List Pr), Ok ps → goP n ps rs = .inr qs → Ok qs
  | [], n, ps, qs, h, e => by cases e; exact h
  | r :: rs, n, ps, qs, h, e => by
    unfold goP at e
    by_cases hm : mayP ps (Txt.split r " ") = true
    · rw [if_pos hm] at e
      refine ok_go rs (n + 1) _ qs ?_ e
      unfold mayP at hm
      split at hm
      · rename_i a m b es
        rw [es]
        simp only [Bool.and_eq_true, decide_eq_true_eq, Bool.not_eq_true', Bool.or_eq_false_iff, decide_eq_false_iff_not] at hm
        obtain ⟨⟨⟨⟨_, ha⟩, hb⟩, hl, ht⟩, _⟩ := hm
        show Ok (ps ++ [pairOf [a, m, b]])
        exact ok_snoc h ha hb hl ht
      · cases hm
    · rw [if_neg hm] at e; cases e
theorem nodup_of_ri {l : List Str} (h : l.Pairwise fun a b => slt a b = true) : l.Nodup := h.imp fun h => slt_ne h
theorem perm_of {l : List Str} : ∀ {m : List Str}, l.Nodup → (∀ x ∈ l, x ∈ m) → m.length ≤ l.length → l.Perm m := by
  induction l with
  | nil => intro m _ _ h; cases m with
    | nil => exact .nil
    | cons _ _ => simp at h
  | cons x l ih =>
    intro m hn hs hl
    have hx : x ∈ m := hs x (by simp)
    rw [List.nodup_cons] at hn
    have p := List.perm_cons_erase hx
    refine (List.Perm.cons x (ih hn.2 (fun y hy => ?_) ?_)).trans p.symm
    · exact (List.mem_erase_of_ne (fun e => hn.1 (by rw [← e]; exact hy))).mpr (hs y (by simp [hy]))
    · rw [List.length_erase_of_mem hx]
      simp only [List.length_cons] at hl
      omega
theorem taks_perm {ps : List Pr} (h : Ok ps) (hs : still ps = []) : (taks ps).Perm (givs ps) := by
  refine perm_of h.nd (fun x hx => ?_) (by simp [taks, givs])
  obtain ⟨p, hp, rfl⟩ := List.mem_map.mp hx
  unfold still at hs
  rw [List.map_eq_nil_iff, List.filter_eq_nil_iff] at hs
  have := hs p hp
  simpa using this
theorem cnt_nodup {l : List Str} (h : l.Nodup) : ∀ i, i ≤ l.length → cntS l i = i
  | 0, _ => rfl
  | i + 1, hi => by
    have ih := cnt_nodup h i (by omega)
    have hlt : i < l.length := by omega
    unfold cntS
    rw [if_neg, ih]
    have e : l.getD i Str.empty = l[i] := by simp [hlt]
    rw [e, List.any_eq_true]
    rintro ⟨x, hx, hq⟩
    have ex : x = l[i] := by simpa using hq
    subst ex
    obtain ⟨j, hj, ej⟩ := List.mem_iff_getElem.mp hx
    rw [List.getElem_take] at ej
    have hji : j < i := by simp at hj; omega
    have := (List.getElem_inj h).mp ej
    omega
/-! ### the law's look at names -/
theorem getD_in (l : List Nat) {k : Nat} (h : k < l.length) : l.getD k 0 = l[k] := by simp [List.getD, h]
theorem strip_nil (x : Str) : decide (Txt.stripChars x lets = Str.empty) = (tl x).all isL := by
  have key : Txt.stripChars x lets = Str.empty ↔ (tl x).all isL = true := by
    unfold Txt.stripChars
    rw [stripBy_eq]
    have lo := lo_facts lets.cps.contains x
    have hi := hi_facts lets.cps.contains x (stripLo lets.cps.contains true x) lo.1
    generalize stripLo lets.cps.contains true x = a at lo hi ⊢
    generalize stripHi lets.cps.contains true x a = b at hi ⊢
    have hc : ∀ c, lets.cps.contains c = isL c := fun c => by
      unfold isL
      rw [Bool.eq_iff_iff]
      simp
    have hg : ∀ k, k < x.length → x.cps.getD k 0 ∈ tl x := fun k hk => by
      rw [← getD_list]
      have hk' : k < (tl x).length := by rw [← len_tl]; exact hk
      have : (tl x).getD k 0 = (tl x)[k] := getD_in _ hk'
      rw [this]
      exact List.getElem_mem _
    have hlen : (PySem.Builtin.Str.strSub x a b).length = b - a := by
      rw [len_tl, tl_strSub, List.length_take, List.length_drop, ← len_tl]
      omega
    constructor
    · intro e
      have h0 : b - a = 0 := by rw [← hlen, e]; rfl
      have hab : b = a := by omega
      rw [List.all_eq_true]
      intro c hcm
      obtain ⟨k, hk, e2⟩ := List.mem_iff_getElem.mp hcm
      have hk' : k < x.length := by rw [len_tl]; exact hk
      have e3 : x.cps.getD k 0 = c := by
        rw [← getD_list, ← e2]
        exact getD_in _ hk
      rw [← hc, ← e3]
      by_cases q : k < a
      · exact lo.2.1 k q
      · exact hi.2.2.1 k (by omega) hk'
    · intro h
      rw [List.all_eq_true] at h
      have ha : a = x.length := by
        rcases lo.2.2 with h1 | h1
        · exact h1
        · by_cases q : a < x.length
          · have := h _ (hg a q)
            rw [← hc, h1] at this
            cases this
          · omega
      have hb : b - a = 0 := by omega
      refine ext_tl ?_
      have : (tl (PySem.Builtin.Str.strSub x a b)).length = 0 := by rw [← len_tl, hlen, hb]
      rw [List.length_eq_zero_iff.mp this]
      rfl
  by_cases h : Txt.stripChars x lets = Str.empty
  · rw [decide_eq_true h, key.mp h]
  · rw [decide_eq_false h]
    cases q : (tl x).all isL with
    | false => rfl
    | true => exact absurd (key.mpr q) h
/-! ### sorted -/
def sle (a b : Str) : Bool := decide (tl a ≤ tl b)
theorem leD_str (a b : Str) : leD (.str a) (.str b) = sle a b := by
  have := congrFun (congrFun (PySem.W.dataLe_str (fun x : Str => x)) a) b
  exact this
theorem srt_strs (ys : List Str) (h : ys.length ≤ 100000) : srtOk (ys.map D.str) = true := by
  unfold srtOk
  simp only [Bool.and_eq_true, List.all_eq_true, decide_eq_true_eq, Bool.or_eq_true]
  refine ⟨⟨⟨⟨fun x hx => ?_, fun x hx y hy => ?_⟩, .inr fun x hx => ?_⟩, fun x hx => ?_⟩, by rw [List.length_map]; exact Nat.le_trans h (by decide)⟩
  all_goals obtain ⟨a, _, rfl⟩ := List.mem_map.mp hx
  · rfl
  · obtain ⟨b, _, rfl⟩ := List.mem_map.mp hy
    rfl
  · rfl
  · simp [MP.encD, toPD, PyData.depth]
theorem sorted_strs (S : Sto) (d : D) (ys : List Str) (h : vw S d = .lst (ys.map D.str)) (hl : ys.length ≤ 100000) : gSorted S [d] = some (.lst ((ys.mergeSort sle).map D.str)) := by
  unfold gSorted
  dsimp only
  rw [h]
  dsimp only
  rw [if_pos (srt_strs ys hl)]
  have e := List.map_mergeSort (r := sle) (s := leD) (f := D.str) (l := ys) (fun a _ b _ => (leD_str a b).symm)
  rw [e]
theorem sorted_taks {ps : List Pr} (h : Ok ps) (hs : still ps = []) : (taks ps).mergeSort sle = givs ps := by
  refine (PySem.W.Srt.the_of_perm sle (fun a b c h1 h2 => decide_eq_true (List.le_trans (of_decide_eq_true h1) (of_decide_eq_true h2))) (fun a b => ?_) (fun a b h1 h2 => ext_tl (List.le_antisymm (of_decide_eq_true h1) (of_decide_eq_true h2))) (taks_perm h hs).symm (h.ri.imp fun {a b} q => ?_)).symm
  · rw [Bool.or_eq_true]
    exact (List.le_total (tl a) (tl b)).imp decide_eq_true decide_eq_true
  · exact decide_eq_true (List.not_lt.mp (List.lt_asymm (of_decide_eq_true q)))
/-! ### a list of texts is itself -/
theorem toPDs_str : ∀ ys : List Str, toPDs (ys.map D.str) = some (ys.map PyData.str)
  | [] => rfl
  | x :: r => by simp [toPDs, toPD, toPDs_str r]
theorem canLay_str : ∀ {ys : List Str}, (∀ y ∈ ys, PyData.strOk y = true) → PyData.canLayAll0 (ys.map PyData.str) = true
  | [], _ => rfl
  | x :: r, h => by
    have e := canLay_str (ys := r) fun y hy => h y (List.mem_cons_of_mem _ hy)
    simp [PyData.canLayAll0, PyData.canLay0, h x (by simp), e]
theorem nm_ok {x : Str} (h : nm x = true) : PyData.strOk x = true := by
  unfold nm at h
  rw [Bool.and_eq_true, List.all_eq_true] at h
  unfold PyData.strOk
  rw [← Array.all_toList, List.all_eq_true]
  intro c hc
  have hb : (lets.cps.toList.all fun c => decide (c < 1000)) = true := by decide
  have := List.all_eq_true.mp hb c (of_decide_eq_true (h.2 c hc))
  have := of_decide_eq_true this
  exact decide_eq_true (by omega)
theorem depth_str : ∀ own : List Str, PyData.depthAll (own.map PyData.str) ≤ 1
  | [] => by simp [PyData.depthAll]
  | x :: r => by
    have := depth_str r
    simp only [List.map_cons, PyData.depthAll, PyData.depth]
    omega
theorem shaped_str {own : List Str} (hy : ∀ y ∈ own, PyData.strOk y = true) : SeqAt.shaped (.list (own.map PyData.str)) = true := by
  unfold SeqAt.shaped
  have h := depth_str own
  rw [Bool.and_eq_true]
  exact ⟨by simp only [PyData.canLay0]; exact canLay_str hy, decide_eq_true (by simp only [PyData.depth]; omega)⟩
theorem eqvAll_str : ∀ own : List Str, PyData.eqvAll (own.map PyData.str) (own.map PyData.str) = true
  | [] => by simp [PyData.eqvAll]
  | x :: r => by simp [PyData.eqvAll, PyData.eqv, eqvAll_str r]
theorem eq_strs_self {S : Sto} (ys : List Str) (hy : ∀ y ∈ ys, PyData.strOk y = true) : gEq S (.lst (ys.map D.str)) (.lst (ys.map D.str)) = some (.bl true) := by
  have e3 : toPD (.lst (ys.map D.str)) = some (.list (ys.map PyData.str)) := by simp [toPD, toPDs_str]
  have e : eqP S (.lst (ys.map D.str)) (.lst (ys.map D.str)) = some true := by
    unfold eqP
    dsimp only [vw]
    rw [e3]
    show (if SeqAt.shaped (.list (ys.map PyData.str)) = true ∧ SeqAt.shaped (.list (ys.map PyData.str)) = true then some (PyData.eqv (.list (ys.map PyData.str)) (.list (ys.map PyData.str))) else none) = _
    rw [if_pos ⟨shaped_str hy, shaped_str hy⟩]
    simp [PyData.eqv, eqvAll_str]
  unfold gEq eqD
  rw [e]
  rfl
theorem ne_nil_strs {S : Sto} {d : D} {ys : List Str} (hv : vw S d = .lst (ys.map D.str)) (hd : eqS d (.lst []) = none) (hy : ∀ y ∈ ys, PyData.strOk y = true) : gNe S d (.lst []) = some (.bl (!ys.isEmpty)) := by
  have e : eqP S d (.lst []) = some ys.isEmpty := by
    unfold eqP
    rw [hv]
    have e3 : toPD (.lst (ys.map D.str)) = some (.list (ys.map PyData.str)) := by simp [toPD, toPDs_str]
    have e4 : toPD (vw S (.lst [])) = some (.list []) := rfl
    rw [e3, e4]
    show (if SeqAt.shaped (.list (ys.map PyData.str)) = true ∧ SeqAt.shaped (.list []) = true then some (PyData.eqv (.list (ys.map PyData.str)) (.list [])) else none) = _
    rw [if_pos ⟨shaped_str hy, rfl⟩]
    cases ys <;> simp [PyData.eqv, PyData.eqvAll]
  unfold gNe eqD
  rw [hd, e]
  rfl
end K59

/-! the plain law of k06: drawn, in two ways -/
namespace K06
open PySem PySem.Spec PyProof.Rows L2 MP TL K59
def riP (q : Pr × Pr) : Bool := ltP q.1.1 q.1.2 q.2.1 q.2.2
/-- as the program asks -/
def drawnA (ps : List Pr) : Bool := (ps.zip (ps.drop 1)).all riP && decide (cntS (givs ps) ps.length = ps.length) && decide ((taks ps).mergeSort sle = givs ps)
/-- as the law asks -/
def drawnB (ps : List Pr) : Bool := decide (givs ps = srtS (givs ps)) && decide ((taks ps).mergeSort sle = givs ps)
theorem nodup_cnt {l : List Str} : ∀ i, i ≤ l.length → cntS l i = i → (l.take i).Nodup
  | 0, _, _ => by simp
  | i + 1, hi, h => by
    have hlt : i < l.length := by omega
    have hle : cntS l i ≤ i := cntS_le l i
    unfold cntS at h
    split at h
    · omega
    · rename_i hn
      have ih := nodup_cnt (l := l) i (by omega) (by omega)
      rw [List.take_succ_eq_append_getElem hlt]
      refine List.nodup_append.mpr ⟨ih, by simp, fun x hx y hy e => hn ?_⟩
      have ey : y = l[i] := by simpa using hy
      have ed : l.getD i Str.empty = l[i] := by simp [hlt]
      rw [List.any_eq_true]
      exact ⟨x, hx, by rw [ed, e, ey]; exact beq_self_eq_true _⟩
theorem rise_pair : ∀ ps : List Pr, (ps.zip (ps.drop 1)).all riP = true → (givs ps).Nodup → (givs ps).Pairwise fun a b => slt a b = true
  | [], _, _ => .nil
  | [p], _, _ => by simp [givs]
  | p :: q :: r, h, hn => by
    have h' : (riP (p, q) && ((q :: r).zip r).all riP) = true := h
    rw [Bool.and_eq_true] at h'
    have hn' : (p.1 :: givs (q :: r)).Nodup := hn
    rw [List.nodup_cons] at hn'
    have ih := rise_pair (q :: r) h'.2 hn'.2
    have hne : p.1 ≠ q.1 := fun e => hn'.1 (by rw [e]; simp [givs])
    have hpq : slt p.1 q.1 = true := by
      have z := h'.1
      unfold riP ltP at z
      dsimp only at z
      rw [if_neg hne] at z
      exact z
    show (p.1 :: givs (q :: r)).Pairwise _
    refine List.pairwise_cons.mpr ⟨fun x hx => ?_, ih⟩
    have hx' : x ∈ q.1 :: givs r := hx
    rcases List.mem_cons.mp hx' with rfl | hx'
    · exact hpq
    · exact slt_trans hpq ((List.pairwise_cons.mp (show (q.1 :: givs r).Pairwise _ from ih)).1 x hx')
theorem pair_rise : ∀ ps : List Pr, ((givs ps).Pairwise fun a b => slt a b = true) → (ps.zip (ps.drop 1)).all riP = true
  | [], _ => rfl
  | [p], _ => rfl
  | p :: q :: r, h => by
    have h' : (p.1 :: givs (q :: r)).Pairwise fun a b => slt a b = true := h
    rw [List.pairwise_cons] at h'
    have ih := pair_rise (q :: r) h'.2
    have hs := h'.1 q.1 (by simp [givs])
    show (riP (p, q) && ((q :: r).zip r).all riP) = true
    rw [Bool.and_eq_true]
    refine ⟨?_, ih⟩
    unfold riP ltP
    dsimp only
    rw [if_neg (slt_ne hs)]
    exact hs
theorem srt_rise {l : List Str} (h : l.Pairwise fun a b => slt a b = true) : l = srtS l :=
  srtS_of (h.imp fun {a b} q => decide_eq_true (List.not_lt.mp (List.lt_asymm (of_decide_eq_true q)))) (nodup_of_ri h) fun k => Iff.rfl
theorem rise_srt {l : List Str} (h : l = srtS l) : l.Pairwise fun a b => slt a b = true := by
  have hn : (srtS l).Nodup := (List.mergeSort_perm (nubS l) leS).nodup_iff.mpr (nodup_nub l)
  have hp : (srtS l).Pairwise fun a b => leS a b = true := List.pairwise_mergeSort (le := leS) (fun a b c h1 h2 => decide_eq_true (List.le_trans (of_decide_eq_true h1) (of_decide_eq_true h2))) (fun (a b : Str) => by
    unfold leS
    rw [Bool.or_eq_true]
    exact (List.le_total a.cps.toList b.cps.toList).imp decide_eq_true decide_eq_true) _
  rw [← h] at hn hp
  refine (List.pairwise_and_iff.mpr ⟨hp, hn⟩).imp fun {a b} q => ?_
  cases z : slt a b with
  | true => rfl
  | false =>
    have hb : slt b a = true := by
      rw [slt_tri (Ne.symm q.2), z]; rfl
    exact absurd (of_decide_eq_true q.1) (List.not_le.mpr (of_decide_eq_true hb))
theorem drawn_eq (ps : List Pr) : drawnA ps = drawnB ps := by
  unfold drawnA drawnB
  congr 1
  rw [Bool.eq_iff_iff, Bool.and_eq_true, decide_eq_true_eq, decide_eq_true_eq]
  have hl : (givs ps).length = ps.length := by simp [givs]
  constructor
  · rintro ⟨h1, h2⟩
    have hn := nodup_cnt (l := givs ps) ps.length (by omega) h2
    rw [List.take_of_length_le (by omega)] at hn
    exact srt_rise (rise_pair ps h1 hn)
  · intro h
    have hr := rise_srt h
    exact ⟨pair_rise ps hr, cnt_nodup (nodup_of_ri hr) _ (by omega)⟩
end K06

/-! a shown text has signs below 0x110000 -/
namespace K06
open PySem PySem.Spec PyProof.Rows L2 MP TL
def Cd (x : Str) : Prop := ∀ c ∈ tl x, c < 0x110000
theorem Cd.app {x y : Str} (h : Cd x) (h2 : Cd y) : Cd (x ++ y) := fun c hc => by
  rw [tl_append] at hc
  exact (List.mem_append.mp hc).elim (h c) (h2 c)
theorem char_lt (c : Char) : c.toNat < 0x110000 := by
  have := c.valid
  unfold UInt32.isValidChar Nat.isValidChar at this
  show c.val.toNat < _
  omega
theorem cd_of (s : String) : Cd (Str.ofString s) := fun c hc => by
  rw [tl_ofString] at hc
  obtain ⟨d, _, rfl⟩ := List.mem_map.mp hc
  exact char_lt d
theorem cd_hex (w c : Nat) : ∀ d ∈ List.replicate (w - ((Nat.toDigits 16 c).map Char.toNat).length) 48 ++ (Nat.toDigits 16 c).map Char.toNat, d < 0x110000 := fun d hd => by
  rcases List.mem_append.mp hd with h | h
  · rw [(List.mem_replicate.mp h).2]; decide
  · obtain ⟨e, _, rfl⟩ := List.mem_map.mp h
    exact char_lt e
theorem cd_char (q c : Nat) (h : c < 0x110000) : ∀ d ∈ PySem.Builtin.Str.reprChar q c, d < 0x110000 := by
  unfold PySem.Builtin.Str.reprChar
  intro d hd
  dsimp only at hd
  have hx := fun w => cd_hex w c
  split at hd
  · simp only [List.mem_cons, List.not_mem_nil, or_false] at hd
    rcases hd with rfl | rfl
    · decide
    · exact h
  · split at hd
    · simp only [List.mem_cons, List.not_mem_nil, or_false] at hd
      rcases hd with rfl | rfl <;> decide
    · split at hd
      · simp only [List.mem_cons, List.not_mem_nil, or_false] at hd
        rcases hd with rfl | rfl <;> decide
      · split at hd
        · simp only [List.mem_cons, List.not_mem_nil, or_false] at hd
          rcases hd with rfl | rfl <;> decide
        · split at hd
          · rw [List.mem_singleton.mp hd]; exact h
          · split at hd
            · rcases List.mem_append.mp hd with hd | hd
              · simp only [List.mem_cons, List.not_mem_nil, or_false] at hd
                rcases hd with rfl | rfl <;> decide
              · exact hx 2 d hd
            · split at hd
              · rcases List.mem_append.mp hd with hd | hd
                · simp only [List.mem_cons, List.not_mem_nil, or_false] at hd
                  rcases hd with rfl | rfl <;> decide
                · exact hx 4 d hd
              · rcases List.mem_append.mp hd with hd | hd
                · simp only [List.mem_cons, List.not_mem_nil, or_false] at hd
                  rcases hd with rfl | rfl <;> decide
                · exact hx 8 d hd
theorem cd_fold (q : Nat) : ∀ (l : List Nat) (acc : Array Nat), (∀ c ∈ l, c < 0x110000) → (∀ c ∈ acc.toList, c < 0x110000) → ∀ c ∈ (l.foldl (fun out c => out ++ (PySem.Builtin.Str.reprChar q c).toArray) acc).toList, c < 0x110000
  | [], acc, _, h => h
  | d :: l, acc, hl, h => by
    refine cd_fold q l _ (fun c hc => hl c (by simp [hc])) fun c hc => ?_
    rw [Array.toList_append] at hc
    rcases List.mem_append.mp hc with hc | hc
    · exact h c hc
    · exact cd_char q d (hl d (by simp)) c hc
theorem cd_repr {x : Str} (h : Cd x) : Cd (reprText x) := by
  intro c hc
  have hq : reprQuote x < 0x110000 := by
    unfold reprQuote
    split <;> decide
  unfold reprText at hc
  have e : tl (⟨(x.cps.foldl (fun out c => out ++ (PySem.Builtin.Str.reprChar (reprQuote x) c).toArray) #[reprQuote x]).push (reprQuote x)⟩ : Str) = (x.cps.foldl (fun out c => out ++ (PySem.Builtin.Str.reprChar (reprQuote x) c).toArray) #[reprQuote x]).toList ++ [reprQuote x] := Array.toList_push ..
  rw [e] at hc
  rcases List.mem_append.mp hc with hc | hc
  · rw [← Array.foldl_toList] at hc
    exact cd_fold _ _ _ h (fun c hc => by rw [List.mem_singleton.mp hc]; exact hq) c hc
  · rw [List.mem_singleton.mp hc]; exact hq
theorem cd_from : ∀ (ts : List Str) (k : Nat) (acc : Str), (∀ t ∈ ts, Cd t) → Cd acc → Cd (textFrom k acc ts)
  | [], _, _, _, h => h
  | t :: ts, k, acc, hs, h => by
    unfold textFrom
    exact cd_from ts (k + 1) _ (fun u hu => hs u (by simp [hu])) ((h.app (by split <;> exact cd_of _)).app (hs t (by simp)))
theorem cd_join {y : Str} (hy : Cd y) : ∀ ts : List Str, (∀ t ∈ ts, Cd t) → Cd (Str.join y ts)
  | [], _ => fun c hc => by cases hc
  | [t], h => h t (by simp)
  | t :: u :: ts, h => by
    have ih := cd_join hy (u :: ts) fun x hx => h x (by simp only [List.mem_cons] at hx ⊢; exact .inr hx)
    intro c hc
    rw [tl_join] at hc
    simp only [List.map_cons, joinL] at hc
    rcases List.mem_append.mp hc with hc | hc
    · exact h t (by simp) c hc
    · rcases List.mem_append.mp hc with hc | hc
      · exact hy c hc
      · refine ih c ?_
        rw [tl_join]
        exact hc
/-- all its texts are good -/
def CdP : PyData → Prop := fun p => Cd p.shown
theorem cd_list {ts : List Str} (h : ∀ t ∈ ts, Cd t) : Cd (listText ts) := (cd_from ts 0 _ h (cd_of _)).app (cd_of _)
theorem cd_tuple {ts : List Str} (h : ∀ t ∈ ts, Cd t) : Cd (tupleText ts) := ((cd_of _).app (cd_join (cd_of _) ts h)).app (by split <;> exact cd_of _)
theorem cd_dict {ts : List Str} (h : ∀ t ∈ ts, Cd t) : Cd (dictText ts) := ((cd_of _).app (cd_join (cd_of _) ts h)).app (cd_of _)
theorem cd_int (i : Int) : Cd (PyData.int i).shown := cd_of _
theorem Cd.ok {x : Str} (h : Cd x) : PyData.strOk x = true := by
  unfold PyData.strOk
  rw [← Array.all_toList, List.all_eq_true]
  intro c hc
  exact decide_eq_true (h c hc)
end K06

namespace K01
open PySem PySem.Spec PyProof.Rows L2 MP TL
open K59 (Pr nm givs taks slt isL lets nm_ok)
open K06 (riP Cd)
/-! ### names, pairs: of any datum -/
def pD (p : Pr) : D := .tup [.str p.1, .str p.2]
def psD (ps : List Pr) : List D := ps.map pD
theorem psD_len (ps : List Pr) : (psD ps).length = ps.length := by simp [psD]
def plainD : D → Bool
  | .ref _ => false
  | .obj _ _ => false
  | .exn _ _ => false
  | .ftup _ => false
  | .str x => decide (x.length ≤ 100000)
  | _ => true
def nmD : D → Bool
  | .str x => nm x
  | _ => false
def prD : D → Bool
  | .tup [a, b] => nmD a && nmD b
  | _ => false
/-- a datum, and what stands in it -/
def In1 (d : D) : Prop := plainD d = true ∧ ∀ xs, d = .tup xs → ∀ x ∈ xs, plainD x = true
def In2 (d : D) : Prop := plainD d = true ∧ ∀ xs, d = .tup xs → xs.length ≤ 3000 ∧ ∀ x ∈ xs, In1 x
def SName (g : F) : Prop := ∀ (S : Sto) (d : D), plainD d = true → g [d] S = .ok (.bl (nmD d)) S
def SPair (g : F) : Prop := ∀ (S : Sto) (d : D), In1 d → g [d] S = .ok (.bl (prD d)) S
def SRise (g : F) : Prop := ∀ (S : Sto) (ps : List Pr), ps.length ≤ 100000 → g [.tup (psD ps)] S = .ok (.bl ((ps.zip (ps.drop 1)).all riP)) S
theorem sz {n : Nat} (h : n ≤ 100000) : n ≤ sizeLine := Nat.le_trans h (by decide)
theorem len_str {S : Sto} {x : Str} (h : x.length ≤ 100000) : gLen S [.str x] = some (.int (x.length : Int)) := by
  unfold gLen
  dsimp only [vw]
  exact if_pos (sz h)
theorem isi_ok {tab : Tab} {l : LE} {ρ : Ev} {S S1 : Sto} {d e : D} (h : l ρ S = .ok d S1) (h2 : gIsi tab S1 d = some e) : lIsi tab l ρ S = .ok e S1 := by
  unfold lIsi; rw [h, bind_ok, h2]; rfl
theorem cut1 (xs : List D) : MP.cutD xs (some 1) none = xs.drop 1 := by
  unfold MP.cutD
  have e1 : HT.sIx xs.length xs.length none = xs.length := rfl
  have e2 : HT.sIx xs.length 0 (some 1) = min 1 xs.length := by
    simp [HT.sIx]
    try omega
  rw [e1, e2]
  cases xs with
  | nil => rfl
  | cons x xs =>
    have : min 1 (x :: xs).length = 1 := by simp
    rw [this]
    simp
theorem zip_ps (ps qs : List Pr) : zipD (psD ps) (psD qs) = (ps.zip qs).map fun q => D.tup [pD q.1, pD q.2] := by
  unfold zipD psD
  induction ps generalizing qs with
  | nil => rfl
  | cons p ps ih => cases qs with
    | nil => rfl
    | cons q qs => simp [ih]
/-- pairs of names, told from what they look like -/
theorem pr_of {d : D} (h : prD d = true) : ∃ p : Pr, d = pD p ∧ nm p.1 = true ∧ nm p.2 = true := by
  unfold prD at h
  split at h
  · rename_i a b
    rw [Bool.and_eq_true] at h
    have k : ∀ d, nmD d = true → ∃ x, d = .str x ∧ nm x = true := fun d hd => by
      unfold nmD at hd
      split at hd
      · exact ⟨_, rfl, hd⟩
      · cases hd
    obtain ⟨x, rfl, hx⟩ := k a h.1
    obtain ⟨y, rfl, hy⟩ := k b h.2
    exact ⟨(x, y), rfl, hx, hy⟩
  · cases h
theorem prs_of : ∀ {xs : List D}, xs.all prD = true → ∃ ps : List Pr, xs = psD ps ∧ ∀ p ∈ ps, nm p.1 = true ∧ nm p.2 = true
  | [], _ => ⟨[], rfl, by simp⟩
  | x :: xs, h => by
    rw [List.all_cons, Bool.and_eq_true] at h
    obtain ⟨p, rfl, hp⟩ := pr_of h.1
    obtain ⟨ps, rfl, hps⟩ := prs_of h.2
    refine ⟨p :: ps, rfl, fun q hq => ?_⟩
    rcases List.mem_cons.mp hq with rfl | hq
    · exact hp
    · exact hps q hq
theorem prs_all {ps : List Pr} (h : ∀ p ∈ ps, nm p.1 = true ∧ nm p.2 = true) : (psD ps).all prD = true := by
  rw [List.all_eq_true]
  intro d hd
  obtain ⟨p, hp, rfl⟩ := List.mem_map.mp hd
  show (nm p.1 && nm p.2) = true
  rw [(h p hp).1, (h p hp).2]; rfl
section
variable {P : Program} {w : World} {K : PySem.W.Frag} {mg : Str → Option Value} {base : Heap}
theorem ok_name (T : T01 K mg) : ∃ g, FnL P w K mg base 1 T.f_is_name T.fd_is_name ["thing"] g ∧ SName g := by
  refine ⟨_, Fun.okL T.F_is_name sc_is_name fun cdv A outer s H E hr =>
(pssl_cons (psl_if (PWL.pt (pwl_or (ptl_not (ptl_truth (pel_isi rfl T.n_isinstance (pel_var (i := 0)) (pe_bltn rfl T.n_str (v := .ty "str") (u := .type "str") (by decide +kernel) rfl) (.ty _) isi_strA))) (pwl_or1 (ptl_not (ptl_chain opl_le2 opl_le2 pel_int (pel_callB (cl_len) rfl T.n_len (by decide +kernel) (pal_cons (pel_var (i := 0)) pal_nil)) (pel_gint rfl T.mg_MOST_LETTERS)))))) (pssl_one (psl_ret pel_bl)) pssl_nil)
  (pssl_one (psl_ret (pel_callB (cl_all rfl) rfl T.n_all (by decide +kernel) (pal_cons (pel_lc (own := [("letter", 1)]) rfl sc_is_name.nd (pil_val (pel_var (i := 0))) (blkOk_by (N := N_is_name) (sc := defScope s_is_name) (by decide +kernel)) (fun _ _ _ _ _ => (pgl_name (i := 1) sc_is_name.nd)) (fun _ _ _ _ _ => ptsl_nil) (fun _ _ _ _ _ => (pel_cmp opl_inSg (pel_var (i := 1)) (pel_gstr rfl T.mg_LETTERS)))) pal_nil))))), ?_⟩
  intro S d hd
  have no : ∀ d : D, lIsi tabStrA (lVar 0) [some d, none] S = .ok (.bl false) S → tTru (lIsi tabStrA (lVar 0)) [some d, none] S = .ok false S := fun d h => tru_b h rfl
  cases d with
  | ref _ => cases hd
  | obj _ _ => cases hd
  | exn _ _ => cases hd
  | ftup _ => cases hd
  | str x =>
    have hx : x.length ≤ 100000 := of_decide_eq_true hd
    have hl : ∀ ρ : Ev, ρ[0]? = some (some (.str x)) → lCallB gLen (aCons (lVar 0) aNil) ρ S = .ok (.int (x.length : Int)) S := fun ρ h => callb_ok (acons_ok (by unfold lVar; rw [h]) rfl) (len_str hx)
    have hi : tTru (lIsi tabStrA (lVar 0)) [some (.str x), none] S = .ok true S := tru_b (isi_ok rfl rfl) rfl
    show _ = R.ok (D.bl (nm x)) S
    by_cases h1 : 1 ≤ x.length
    · by_cases h2 : x.length ≤ 12
      · have hc : tTru (lChain gLe2 gLe2 (lC (.int 1)) (lCallB gLen (aCons (lVar 0) aNil)) (lC (.int 12))) [some (.str x), none] S = .ok true S :=
          tru_b (chain_tt rfl (hl _ rfl) (show gLe2 S (.int 1) (.int (x.length : Int)) = some (.bl true) by show some (D.bl (decide ((1 : Int) ≤ x.length))) = _; rw [decide_eq_true (by omega)]) rfl (show gLe2 S (.int (x.length : Int)) (.int 12) = some (.bl (decide ((x.length : Int) ≤ 12))) from rfl)) (decide_eq_true (by omega))
        have hn : nm x = (tl x).all isL := by unfold nm; rw [decide_eq_true ⟨h1, h2⟩, Bool.true_and]
        rw [hn]
        refine body_rt (seq_nx (if_ff (or_ff (not_ok hi) (not_ok hc)) rfl) (ret_ok (callb_ok (acons_ok (comp_okL (iter_ok rfl rfl) (by show ((tl x).map _).length ≤ _; rw [List.length_map, ← len_tl]; omega) (comp_map (enc := fun c : Nat => D.str ⟨#[c]⟩) (f := fun c => .bl (isL c)) trivial (tl x) fun c hc => ?_)) rfl) (all_ok isL (tl x)))))
        exact ⟨_, rfl, bin_ok rfl rfl rfl⟩
      · have hc : tTru (lChain gLe2 gLe2 (lC (.int 1)) (lCallB gLen (aCons (lVar 0) aNil)) (lC (.int 12))) [some (.str x), none] S = .ok false S :=
          tru_b (chain_tt rfl (hl _ rfl) (show gLe2 S (.int 1) (.int (x.length : Int)) = some (.bl true) by show some (D.bl (decide ((1 : Int) ≤ x.length))) = _; rw [decide_eq_true (by omega)]) rfl (show gLe2 S (.int (x.length : Int)) (.int 12) = some (.bl (decide ((x.length : Int) ≤ 12))) from rfl)) (decide_eq_false (by omega))
        have hn : nm x = false := by unfold nm; rw [decide_eq_false (by omega), Bool.false_and]
        rw [hn]
        exact body_rt (seq_rt (if_tt (or_ff (not_ok hi) (not_ok hc)) (ret_ok rfl)))
    · have hc : tTru (lChain gLe2 gLe2 (lC (.int 1)) (lCallB gLen (aCons (lVar 0) aNil)) (lC (.int 12))) [some (.str x), none] S = .ok false S :=
        tru_b (chain_ff rfl (hl _ rfl) (show gLe2 S (.int 1) (.int (x.length : Int)) = some (.bl false) by show some (D.bl (decide ((1 : Int) ≤ x.length))) = _; rw [decide_eq_false (by omega)])) rfl
      have hn : nm x = false := by unfold nm; rw [decide_eq_false (by omega), Bool.false_and]
      rw [hn]
      exact body_rt (seq_rt (if_tt (or_ff (not_ok hi) (not_ok hc)) (ret_ok rfl)))
  | _ => exact body_rt (seq_rt (if_tt (or_tt (not_ok (no _ (isi_ok rfl rfl)))) (ret_ok rfl)))
theorem ok_pair (T : T01 K mg) : ∃ g, FnL P w K mg base 2 T.f_is_pair T.fd_is_pair ["thing"] g ∧ SPair g := by
  obtain ⟨gn, Fn_is_name, Sn⟩ := ok_name (P := P) (w := w) (base := base) T
  refine ⟨_, Fun.okL T.F_is_pair sc_is_pair fun cdv A outer s H E hr =>
(pssl_one (psl_ret (pel_and (pel_isi rfl T.n_isinstance (pel_var (i := 0)) (pe_bltn rfl T.n_tuple (v := .ty "tuple") (u := .type "tuple") (by decide +kernel) rfl) (.ty _) isi_tupleA) (pel_and (pel_cmp (opl_eq hr.units) (pel_callB (cl_len) rfl T.n_len (by decide +kernel) (pal_cons (pel_var (i := 0)) pal_nil)) pel_int) (pel_and (pel_call Fn_is_name (hr.mono (by decide)) rfl T.mg_is_name T.F_is_name.kp T.b_is_name dfl_nil (pal_cons (pel_ix ixl_seq (pel_var (i := 0)) pel_int) pal_nil)) (pel_one (pel_call Fn_is_name (hr.mono (by decide)) rfl T.mg_is_name T.F_is_name.kp T.b_is_name dfl_nil (pal_cons (pel_ix ixl_seq (pel_var (i := 0)) pel_int) pal_nil)))))))), ?_⟩
  intro S d hd
  obtain ⟨hd, hx⟩ := hd
  cases d with
  | ref _ => cases hd
  | obj _ _ => cases hd
  | exn _ _ => cases hd
  | ftup _ => cases hd
  | tup xs =>
    have hx := hx xs rfl
    have hlen : ∀ ρ : Ev, ρ[0]? = some (some (.tup xs)) → lBin gEq (lCallB gLen (aCons (lVar 0) aNil)) (lC (.int 2)) ρ S = .ok (.bl (decide ((xs.length : Int) = 2))) S := fun ρ h => bin_ok (callb_ok (acons_ok (by unfold lVar; rw [h]) rfl) rfl) rfl eq_ii
    match xs, hx, hlen with
    | [], _, hlen => exact body_rt (ret_ok (andv_tt (d := .bl true) (isi_ok rfl rfl) rfl (andv_ff (d := .bl false) (hlen _ rfl) rfl)))
    | [_], _, hlen => exact body_rt (ret_ok (andv_tt (d := .bl true) (isi_ok rfl rfl) rfl (andv_ff (d := .bl false) (hlen _ rfl) rfl)))
    | a :: b :: c :: r, _, hlen =>
      rw [decide_eq_false (by simp only [List.length_cons]; omega)] at hlen
      exact body_rt (ret_ok (andv_tt (d := .bl true) (isi_ok rfl rfl) rfl (andv_ff (d := .bl false) (hlen _ rfl) rfl)))
    | [a, b], hx, hlen =>
      have c0 : ∀ ρ : Ev, ρ[0]? = some (some (.tup [a, b])) → lCall 1 gn [] (aCons (lBin gIx (lVar 0) (lC (.int 0))) aNil) ρ S = .ok (.bl (nmD a)) S := fun ρ h => call_ok (acons_ok (bin_ok (by unfold lVar; rw [h]) rfl rfl) rfl) rfl (Sn S a (hx a (by simp)))
      have c1 : ∀ ρ : Ev, ρ[0]? = some (some (.tup [a, b])) → lCall 1 gn [] (aCons (lBin gIx (lVar 0) (lC (.int 1))) aNil) ρ S = .ok (.bl (nmD b)) S := fun ρ h => call_ok (acons_ok (bin_ok (by unfold lVar; rw [h]) rfl rfl) rfl) rfl (Sn S b (hx b (by simp)))
      show _ = R.ok (D.bl (nmD a && nmD b)) S
      refine body_rt (ret_ok (andv_tt (d := .bl true) (isi_ok rfl rfl) rfl (andv_tt (d := .bl true) (hlen _ rfl) rfl ?_)))
      cases q : nmD a with
      | false => exact andv_ff (d := .bl false) ((c0 _ rfl).trans (by rw [q])) rfl
      | true => exact andv_tt (d := .bl true) ((c0 _ rfl).trans (by rw [q])) rfl (c1 _ rfl)
  | _ => exact body_rt (ret_ok (andv_ff (d := .bl false) (isi_ok rfl rfl) rfl))
theorem ok_rise (T : T01 K mg) : ∃ g, FnL P w K mg base 1 T.f_does_rise T.fd_does_rise ["things"] g ∧ SRise g := by
  refine ⟨_, Fun.okL T.F_does_rise sc_does_rise fun cdv A outer s H E hr =>
(pssl_one (psl_ret (pel_callB (cl_all rfl) rfl T.n_all (by decide +kernel) (pal_cons (pel_lc (own := [("one", 1), ("other", 2)]) rfl sc_does_rise.nd (pil_zip rfl T.n_zip (pal_cons (pel_var (i := 0)) (pal_cons (pel_slice sll_any (pel_var (i := 0)) (pol_some pel_int) pol_none) pal_nil))) (blkOk_by (N := N_does_rise) (sc := defScope s_does_rise) (by decide +kernel)) (fun _ _ _ _ _ => (pgl_tup (n := 2) rfl (pgsl_cons (pgl_name (i := 1) sc_does_rise.nd) (pgsl_cons (pgl_name (i := 2) sc_does_rise.nd) pgsl_nil)))) (fun _ _ _ _ _ => ptsl_nil) (fun _ _ _ _ _ => (pel_cmp (opl_lt2 hr.units) (pel_var (i := 1)) (pel_var (i := 2))))) pal_nil)))), ?_⟩
  intro S ps hl
  have hz : lZip (aCons (lVar 0) (aCons (lSlice gSlice (lVar 0) (oSome (lC (.int 1))) oNone) aNil)) [some (.tup (psD ps)), none, none] S = .ok ⟨(ps.zip (ps.drop 1)).map fun q => D.tup [pD q.1, pD q.2], fun _ => True⟩ S := by
    refine zip_ok (acons_ok rfl (acons_ok (slice_ok rfl (osome_ok rfl) rfl (show gSlice S (.tup (psD ps)) (some 1) none = some (.tup (psD (ps.drop 1))) from ?_)) rfl)) (by rw [← zip_ps]; rfl)
    show some (D.tup (MP.cutD (psD ps) (some 1) none)) = _
    rw [cut1]
    unfold psD
    rw [List.map_drop]
  refine body_rt (ret_ok (callb_ok (acons_ok (comp_okL hz (by simp; omega) (comp_map (f := fun q => .bl (riP q)) trivial _ fun q hq => ⟨_, rfl, bin_ok rfl rfl rfl⟩)) rfl) (all_ok riP _)))
end
end K01

namespace K01
open PySem PySem.Spec PyProof.Rows L2 MP TL
open K59 (Pr nm givs taks slt isL lets nm_ok sle sorted_strs)
open K06 (riP Cd)
theorem eqvAll_strs : ∀ as bs : List Str, PyData.eqvAll (as.map PyData.str) (bs.map PyData.str) = decide (as = bs)
  | [], [] => by simp [PyData.eqvAll]
  | [], _ :: _ => by simp [PyData.eqvAll]
  | _ :: _, [] => by simp [PyData.eqvAll]
  | a :: as, b :: bs => by
    have ih := eqvAll_strs as bs
    have hb : (a == b) = decide (a = b) := by
      rw [Bool.eq_iff_iff]
      simp
    simp [PyData.eqvAll, PyData.eqv, ih, hb]
theorem eq_strs {S : Sto} {as bs : List Str} (ha : ∀ y ∈ as, PyData.strOk y = true) (hb : ∀ y ∈ bs, PyData.strOk y = true) : gEq S (.lst (as.map D.str)) (.lst (bs.map D.str)) = some (.bl (decide (as = bs))) := by
  have e1 : toPD (.lst (as.map D.str)) = some (.list (as.map PyData.str)) := by simp [toPD, K59.toPDs_str]
  have e2 : toPD (.lst (bs.map D.str)) = some (.list (bs.map PyData.str)) := by simp [toPD, K59.toPDs_str]
  have e : eqP S (.lst (as.map D.str)) (.lst (bs.map D.str)) = some (decide (as = bs)) := by
    unfold eqP
    dsimp only [vw]
    rw [e1, e2]
    show (if SeqAt.shaped (.list (as.map PyData.str)) = true ∧ SeqAt.shaped (.list (bs.map PyData.str)) = true then some (PyData.eqv (.list (as.map PyData.str)) (.list (bs.map PyData.str))) else none) = _
    rw [if_pos ⟨K59.shaped_str ha, K59.shaped_str hb⟩]
    simp [PyData.eqv, eqvAll_strs]
  unfold gEq eqD
  rw [e]
  rfl
def unp : D → Pr
  | .tup [.str a, .str b] => (a, b)
  | _ => (Str.empty, Str.empty)
theorem unp_ps (ps : List Pr) : (psD ps).map unp = ps := by
  unfold psD
  rw [List.map_map]
  exact List.map_id'' (fun _ => rfl) ps
/-- each less than the next -/
def rsP (ps : List Pr) : Bool := (ps.zip (ps.drop 1)).all riP
/-- rising pairs of names -/
def prsD : D → Bool
  | .tup xs => xs.all prD && rsP (xs.map unp)
  | _ => false
theorem prsD_ps {ps : List Pr} (h : ∀ p ∈ ps, nm p.1 = true ∧ nm p.2 = true) : prsD (.tup (psD ps)) = rsP ps := by
  show ((psD ps).all prD && rsP ((psD ps).map unp)) = _
  rw [prs_all h, unp_ps, Bool.true_and]
theorem cases_ps (d : D) : (∃ ps : List Pr, d = .tup (psD ps) ∧ ∀ p ∈ ps, nm p.1 = true ∧ nm p.2 = true) ∨ (prsD d = false ∧ ∀ xs, d = .tup xs → xs.all prD = false) := by
  cases d with
  | tup xs =>
    cases q : xs.all prD with
    | true =>
      obtain ⟨ps, rfl, hn⟩ := prs_of q
      exact .inl ⟨ps, rfl, hn⟩
    | false => exact .inr ⟨by show (xs.all prD && _) = false; rw [q]; rfl, fun ys e => by cases e; exact q⟩
  | _ => exact .inr ⟨rfl, fun xs e => nomatch e⟩
def SPairsD (g : F) : Prop := ∀ (S : Sto) (d : D), In2 d → g [d] S = .ok (.bl (prsD d)) S
def SPairs (g : F) : Prop := ∀ (S : Sto) (d : D), In2 d → (∀ ps : List Pr, d = .tup (psD ps) → (∀ p ∈ ps, nm p.1 = true ∧ nm p.2 = true) → g [d] S = .ok (.bl ((ps.zip (ps.drop 1)).all riP)) S) ∧ ((∀ xs, d = .tup xs → xs.all prD = false) → g [d] S = .ok (.bl false) S)
section
variable {P : Program} {w : World} {K : PySem.W.Frag} {mg : Str → Option Value} {base : Heap}
theorem ok_pairs (T : T01 K mg) : ∃ g, FnL P w K mg base 3 T.f_are_pairs T.fd_are_pairs ["thing"] g ∧ SPairs g := by
  obtain ⟨gp, Fn_is_pair, Sp⟩ := ok_pair (P := P) (w := w) (base := base) T
  obtain ⟨gr, Fn_does_rise, Sr⟩ := ok_rise (P := P) (w := w) (base := base) T
  refine ⟨_, Fun.okL T.F_are_pairs sc_are_pairs fun cdv A outer s H E hr =>
(pssl_one (psl_ret (pel_and (pel_isi rfl T.n_isinstance (pel_var (i := 0)) (pe_bltn rfl T.n_tuple (v := .ty "tuple") (u := .type "tuple") (by decide +kernel) rfl) (.ty _) isi_tupleA) (pel_and (pel_callB (cl_all rfl) rfl T.n_all (by decide +kernel) (pal_cons (pel_lc (own := [("one", 1)]) rfl sc_are_pairs.nd (pil_val (pel_var (i := 0))) (blkOk_by (N := N_are_pairs) (sc := defScope s_are_pairs) (by decide +kernel)) (fun _ _ _ _ _ => (pgl_name (i := 1) sc_are_pairs.nd)) (fun _ _ _ _ _ => ptsl_nil) (fun _ _ _ _ _ => (pel_call Fn_is_pair (hr.mono (by decide)) rfl T.mg_is_pair T.F_is_pair.kp T.b_is_pair dfl_nil (pal_cons (pel_var (i := 1)) pal_nil)))) pal_nil)) (pel_one (pel_call Fn_does_rise (hr.mono (by decide)) rfl T.mg_does_rise T.F_does_rise.kp T.b_does_rise dfl_nil (pal_cons (pel_var (i := 0)) pal_nil))))))), ?_⟩
  intro S d hd
  obtain ⟨hd, hx⟩ := hd
  have all : ∀ xs : List D, xs.length ≤ 3000 → (∀ x ∈ xs, In1 x) → lCallB gAll (aCons (lComp (lIter (lVar 0)) [1] (gtName 1) tYesL (lCall 1 gp [] (aCons (lVar 1) aNil))) aNil) [some (.tup xs), none] S = .ok (.bl (xs.all prD)) S := fun xs hl hi => by
    have hc : lComp (lIter (lVar 0)) [1] (gtName 1) tYesL (lCall 1 gp [] (aCons (lVar 1) aNil)) [some (.tup xs), none] S = .ok (.lst (xs.map fun d => D.bl (prD d))) S := by
      have := comp_map (enc := fun d : D => d) (f := fun d => D.bl (prD d)) (g := gtName 1) (te := lCall 1 gp [] (aCons (lVar 1) aNil)) (ρ0 := wipeE [some (.tup xs), none] [1]) (S := S) (chk := fun _ => True) trivial xs fun d hd => ⟨_, rfl, call_ok (acons_ok rfl rfl) rfl (Sp S d (hi d hd))⟩
      rw [List.map_id'] at this
      exact comp_okL (iter_ok rfl rfl) (show xs.length ≤ 100000 by omega) this
    exact callb_ok (acons_ok hc rfl) (all_ok prD xs)
  refine ⟨fun ps e hn => ?_, fun hno => ?_⟩
  · subst e
    obtain ⟨hl, hi⟩ := hx _ rfl
    have ha := all (psD ps) hl hi
    rw [prs_all hn] at ha
    rw [psD_len] at hl
    exact body_rt (ret_ok (andv_tt (d := .bl true) (isi_ok rfl rfl) rfl (andv_tt (d := .bl true) ha rfl (call_ok (acons_ok rfl rfl) rfl (Sr S ps (by omega))))))
  · cases d with
    | ref _ => cases hd
    | obj _ _ => cases hd
    | exn _ _ => cases hd
    | ftup _ => cases hd
    | tup xs =>
      obtain ⟨hl, hi⟩ := hx _ rfl
      have ha := all xs hl hi
      rw [hno xs rfl] at ha
      exact body_rt (ret_ok (andv_tt (d := .bl true) (isi_ok rfl rfl) rfl (andv_ff (d := .bl false) ha rfl)))
    | _ => exact body_rt (ret_ok (andv_ff (d := .bl false) (isi_ok rfl rfl) rfl))
theorem ok_pairsD (T : T01 K mg) : ∃ g, FnL P w K mg base 3 T.f_are_pairs T.fd_are_pairs ["thing"] g ∧ SPairsD g := by
  obtain ⟨g, F, S⟩ := ok_pairs (P := P) (w := w) (base := base) T
  refine ⟨g, F, fun S0 d hd => ?_⟩
  rcases cases_ps d with ⟨ps, rfl, hn⟩ | ⟨e, hno⟩
  · rw [prsD_ps hn]
    exact (S S0 _ hd).1 ps rfl hn
  · rw [e]
    exact (S S0 d hd).2 hno
end
end K01

namespace K01
open PySem PySem.Spec PyProof.Rows L2 MP TL
open K59 (Pr nm givs taks slt isL lets nm_ok sle sorted_strs)
open K06 (riP Cd)
/-! ### members, years, circles: of any datum -/
def epD : D → Bool
  | .str x => decide (x = Str.empty)
  | _ => false
def mbD : D → Bool
  | .tup [a, b] => nmD a && (nmD b || epD b)
  | _ => false
def mnm : D → Str
  | .tup (.str a :: _) => a
  | _ => Str.empty
def riseS (ys : List Str) : Bool := (ys.zip (ys.drop 1)).all fun q => slt q.1 q.2
def mbsD : D → Bool
  | .tup xs => xs.all mbD && riseS (xs.map mnm)
  | _ => false
def yrsD : D → Bool
  | .tup xs => xs.all prsD
  | _ => false
def gapD : D → Bool
  | .int i => decide (0 ≤ i ∧ i < 10 ^ 30)
  | _ => false
def isN : D → Bool
  | .non => true
  | _ => false
def crD (m b p g : D) : Bool := mbsD m && (isN b || prsD b) && (isN p || yrsD p) && gapD g
def In3 (d : D) : Prop := plainD d = true ∧ ∀ xs, d = .tup xs → xs.length ≤ 3000 ∧ ∀ x ∈ xs, In2 x
def IntOk (d : D) : Prop := ∀ i, d = .int i → i.natAbs.log2 < 1920
theorem mb_of {d : D} (h : mbD d = true) : ∃ a b : Str, d = .tup [.str a, .str b] ∧ nm a = true := by
  unfold mbD at h
  split at h
  · rename_i x y
    rw [Bool.and_eq_true] at h
    obtain ⟨h1, h2⟩ := h
    unfold nmD at h1
    split at h1
    · rename_i a
      have key : ∃ b, y = .str b := by
        rw [Bool.or_eq_true] at h2
        rcases h2 with h2 | h2
        · unfold nmD at h2
          split at h2
          · exact ⟨_, rfl⟩
          · cases h2
        · unfold epD at h2
          split at h2
          · exact ⟨_, rfl⟩
          · cases h2
      obtain ⟨b, rfl⟩ := key
      exact ⟨a, b, rfl, h1⟩
    · cases h1
  · cases h
theorem mbs_of : ∀ {xs : List D}, xs.all mbD = true → ∃ ps : List Pr, xs = psD ps ∧ (∀ p ∈ ps, nm p.1 = true) ∧ xs.map mnm = givs ps
  | [], _ => ⟨[], rfl, by simp, rfl⟩
  | x :: xs, h => by
    rw [List.all_cons, Bool.and_eq_true] at h
    obtain ⟨a, b, rfl, ha⟩ := mb_of h.1
    obtain ⟨ps, rfl, hps, e⟩ := mbs_of h.2
    refine ⟨(a, b) :: ps, rfl, fun p hp => ?_, by rw [List.map_cons, e]; rfl⟩
    rcases List.mem_cons.mp hp with rfl | hp
    · exact ha
    · exact hps p hp
theorem str_len30 {i : Int} (h0 : 0 ≤ i) : (Str.ofString (toString i)).length ≤ 30 ↔ i < 10 ^ 30 := by
  obtain ⟨n, rfl⟩ := Int.eq_ofNat_of_zero_le h0
  have e : (Str.ofString (toString (n : Int))).length = (Nat.toDigits 10 n).length := by
    rw [len_tl, tl_ofString, List.length_map]
    have e2 : toString (n : Int) = Nat.repr n := rfl
    rw [e2, Nat.repr_eq_ofList_toDigits]
    simp
  rw [e, Nat.length_toDigits_le_iff (by decide) (by decide)]
  omega
def SMember (g : F) : Prop := ∀ (S : Sto) (d : D), In1 d → g [d] S = .ok (.bl (mbD d)) S
def SMembers (g : F) : Prop := ∀ (S : Sto) (d : D), In2 d → g [d] S = .ok (.bl (mbsD d)) S
def SYears (g : F) : Prop := ∀ (S : Sto) (d : D), In3 d → g [d] S = .ok (.bl (yrsD d)) S
def SCircle (f : F) : Prop := ∀ (S : Sto) (m b p g : D), In2 m → In2 b → In3 p → plainD g = true → IntOk g → f [m, b, p, g] S = .ok (.bl (crD m b p g)) S
section
variable {P : Program} {w : World} {K : PySem.W.Frag} {mg : Str → Option Value} {base : Heap}
theorem ok_member (T : T01 K mg) : ∃ g, FnL P w K mg base 2 T.f_is_member T.fd_is_member ["thing"] g ∧ SMember g := by
  obtain ⟨gn, Fn_is_name, Sn⟩ := ok_name (P := P) (w := w) (base := base) T
  refine ⟨_, Fun.okL T.F_is_member sc_is_member fun cdv A outer s H E hr =>
(pssl_cons (psl_if (PWL.pt (pwl_or (ptl_not (ptl_truth (pel_isi rfl T.n_isinstance (pel_var (i := 0)) (pe_bltn rfl T.n_tuple (v := .ty "tuple") (u := .type "tuple") (by decide +kernel) rfl) (.ty _) isi_tupleA))) (pwl_or (ptl_cmp (opl_ne hr.units) (pel_callB (cl_len) rfl T.n_len (by decide +kernel) (pal_cons (pel_var (i := 0)) pal_nil)) pel_int) (pwl_or1 (ptl_not (ptl_truth (pel_call Fn_is_name (hr.mono (by decide)) rfl T.mg_is_name T.F_is_name.kp T.b_is_name dfl_nil (pal_cons (pel_ix ixl_seq (pel_var (i := 0)) pel_int) pal_nil)))))))) (pssl_one (psl_ret pel_bl)) pssl_nil)
  (pssl_one (psl_ret (pel_or (pel_call Fn_is_name (hr.mono (by decide)) rfl T.mg_is_name T.F_is_name.kp T.b_is_name dfl_nil (pal_cons (pel_ix ixl_seq (pel_var (i := 0)) pel_int) pal_nil)) (pel_one (pel_and (pel_isi rfl T.n_isinstance (pel_ix ixl_seq (pel_var (i := 0)) pel_int) (pe_bltn rfl T.n_str (v := .ty "str") (u := .type "str") (by decide +kernel) rfl) (.ty _) isi_strA) (pel_one (pel_cmp (opl_eq hr.units) (pel_ix ixl_seq (pel_var (i := 0)) pel_int) pel_str)))))))), ?_⟩
  intro S d hd
  obtain ⟨hp, hx⟩ := hd
  have nt : ∀ d : D, lIsi tabTupA (lVar 0) [some d] S = .ok (.bl false) S → tTru (lIsi tabTupA (lVar 0)) [some d] S = .ok false S := fun d h => tru_b h rfl
  cases d with
  | ref _ => cases hp
  | obj _ _ => cases hp
  | exn _ _ => cases hp
  | ftup _ => cases hp
  | tup xs =>
    have hx := hx xs rfl
    have i1 : tTru (lIsi tabTupA (lVar 0)) [some (.tup xs)] S = .ok true S := tru_b (isi_ok rfl rfl) rfl
    have hlen : tTru (lBin gNe (lCallB gLen (aCons (lVar 0) aNil)) (lC (.int 2))) [some (.tup xs)] S = .ok (!decide ((xs.length : Int) = 2)) S := tru_b (bin_ok (callb_ok (acons_ok rfl rfl) rfl) rfl ne_ii) rfl
    match xs, hx, i1, hlen with
    | [], _, i1, hlen => exact body_rt (seq_rt (if_tt (or_ff (not_ok i1) (or_tt hlen)) (ret_ok rfl)))
    | [_], _, i1, hlen => exact body_rt (seq_rt (if_tt (or_ff (not_ok i1) (or_tt hlen)) (ret_ok rfl)))
    | a :: b :: c :: r, _, i1, hlen =>
      rw [decide_eq_false (by simp only [List.length_cons]; omega)] at hlen
      exact body_rt (seq_rt (if_tt (or_ff (not_ok i1) (or_tt hlen)) (ret_ok rfl)))
    | [a, b], hx, i1, hlen =>
      have ha := hx a (by simp)
      have hb := hx b (by simp)
      have c0 : tTru (lCall 1 gn [] (aCons (lBin gIx (lVar 0) (lC (.int 0))) aNil)) [some (.tup [a, b])] S = .ok (nmD a) S := tru_b (call_ok (acons_ok (bin_ok rfl rfl rfl) rfl) rfl (Sn S a ha)) rfl
      have c1 : lCall 1 gn [] (aCons (lBin gIx (lVar 0) (lC (.int 1))) aNil) [some (.tup [a, b])] S = .ok (.bl (nmD b)) S := call_ok (acons_ok (bin_ok rfl rfl rfl) rfl) rfl (Sn S b hb)
      rw [show (!decide ((([a, b] : List D).length : Int) = 2)) = false from rfl] at hlen
      show _ = R.ok (D.bl (nmD a && (nmD b || epD b))) S
      cases qa : nmD a with
      | false =>
        rw [qa] at c0
        exact body_rt (seq_rt (if_tt (or_ff (not_ok i1) (or_ff hlen (not_ok c0))) (ret_ok rfl)))
      | true =>
        rw [qa] at c0
        refine body_rt (seq_nx (if_ff (or_ff (not_ok i1) (or_ff hlen (not_ok c0))) rfl) (ret_ok ?_))
        cases qb : nmD b with
        | true =>
          rw [qb] at c1
          exact orv_tt (d := .bl true) c1 rfl
        | false =>
          rw [qb] at c1
          refine orv_ff (d := .bl false) c1 rfl ?_
          have nb : ∀ b : D, plainD b = true → lAndV (lIsi tabStrA (lBin gIx (lVar 0) (lC (.int 1)))) (lBin gEq (lBin gIx (lVar 0) (lC (.int 1))) (lC (.str ""))) [some (.tup [a, b])] S = .ok (.bl (epD b)) S := fun b hb => by
            cases b with
            | ref _ => cases hb
            | obj _ _ => cases hb
            | exn _ _ => cases hb
            | ftup _ => cases hb
            | str x => exact andv_tt (d := .bl true) (isi_ok (bin_ok rfl rfl rfl) rfl) rfl (bin_ok (bin_ok rfl rfl rfl) rfl eq_ss)
            | _ => exact andv_ff (d := .bl false) (isi_ok (bin_ok rfl rfl rfl) rfl) rfl
          exact nb b hb
  | _ => exact body_rt (seq_rt (if_tt (or_tt (not_ok (nt _ (isi_ok rfl rfl)))) (ret_ok rfl)))
theorem ok_members (T : T01 K mg) : ∃ g, FnL P w K mg base 3 T.f_are_members T.fd_are_members ["thing"] g ∧ SMembers g := by
  obtain ⟨gp, Fn_is_member, Sp⟩ := ok_member (P := P) (w := w) (base := base) T
  refine ⟨_, Fun.okL T.F_are_members sc_are_members fun cdv A outer s H E hr =>
(pssl_cons (psl_if (PWL.pt (pwl_or (ptl_not (ptl_truth (pel_isi rfl T.n_isinstance (pel_var (i := 0)) (pe_bltn rfl T.n_tuple (v := .ty "tuple") (u := .type "tuple") (by decide +kernel) rfl) (.ty _) isi_tupleA))) (pwl_or1 (ptl_not (ptl_truth (pel_callB (cl_all rfl) rfl T.n_all (by decide +kernel) (pal_cons (pel_lc (own := [("one", 1)]) rfl sc_are_members.nd (pil_val (pel_var (i := 0))) (blkOk_by (N := N_are_members) (sc := defScope s_are_members) (by decide +kernel)) (fun _ _ _ _ _ => (pgl_name (i := 1) sc_are_members.nd)) (fun _ _ _ _ _ => ptsl_nil) (fun _ _ _ _ _ => (pel_call Fn_is_member (hr.mono (by decide)) rfl T.mg_is_member T.F_is_member.kp T.b_is_member dfl_nil (pal_cons (pel_var (i := 1)) pal_nil)))) pal_nil))))))) (pssl_one (psl_ret pel_bl)) pssl_nil)
  (pssl_one (psl_ret (pel_callB (cl_all rfl) rfl T.n_all (by decide +kernel) (pal_cons (pel_lc (own := [("one", 1), ("other", 2)]) rfl sc_are_members.nd (pil_zip rfl T.n_zip (pal_cons (pel_var (i := 0)) (pal_cons (pel_slice sll_any (pel_var (i := 0)) (pol_some pel_int) pol_none) pal_nil))) (blkOk_by (N := N_are_members) (sc := defScope s_are_members) (by decide +kernel)) (fun _ _ _ _ _ => (pgl_tup (n := 2) rfl (pgsl_cons (pgl_name (i := 1) sc_are_members.nd) (pgsl_cons (pgl_name (i := 2) sc_are_members.nd) pgsl_nil)))) (fun _ _ _ _ _ => ptsl_nil) (fun _ _ _ _ _ => (pel_cmp (opl_lt2 hr.units) (pel_ix ixl_seq (pel_var (i := 1)) pel_int) (pel_ix ixl_seq (pel_var (i := 2)) pel_int)))) pal_nil))))), ?_⟩
  intro S d hd
  obtain ⟨hp, hx⟩ := hd
  have nt : ∀ d : D, lIsi tabTupA (lVar 0) [some d, none, none] S = .ok (.bl false) S → tTru (lIsi tabTupA (lVar 0)) [some d, none, none] S = .ok false S := fun d h => tru_b h rfl
  cases d with
  | ref _ => cases hp
  | obj _ _ => cases hp
  | exn _ _ => cases hp
  | ftup _ => cases hp
  | tup xs =>
    obtain ⟨hl, hi⟩ := hx xs rfl
    have i1 : tTru (lIsi tabTupA (lVar 0)) [some (.tup xs), none, none] S = .ok true S := tru_b (isi_ok rfl rfl) rfl
    have hc : lComp (lIter (lVar 0)) [1] (gtName 1) tYesL (lCall 1 gp [] (aCons (lVar 1) aNil)) [some (.tup xs), none, none] S = .ok (.lst (xs.map fun d => D.bl (mbD d))) S := by
      have := comp_map (enc := fun d : D => d) (f := fun d => D.bl (mbD d)) (g := gtName 1) (te := lCall 1 gp [] (aCons (lVar 1) aNil)) (ρ0 := wipeE [some (.tup xs), none, none] [1]) (S := S) (chk := fun _ => True) trivial xs fun d hd => ⟨_, rfl, call_ok (acons_ok rfl rfl) rfl (Sp S d (hi d hd))⟩
      rw [List.map_id'] at this
      exact comp_okL (iter_ok rfl rfl) (show xs.length ≤ 100000 by omega) this
    have ha : tTru (lCallB gAll (aCons (lComp (lIter (lVar 0)) [1] (gtName 1) tYesL (lCall 1 gp [] (aCons (lVar 1) aNil))) aNil)) [some (.tup xs), none, none] S = .ok (xs.all mbD) S := tru_b (callb_ok (acons_ok hc rfl) (all_ok mbD xs)) rfl
    show _ = R.ok (D.bl (xs.all mbD && riseS (xs.map mnm))) S
    cases q : xs.all mbD with
    | false =>
      rw [q] at ha
      exact body_rt (seq_rt (if_tt (or_ff (not_ok i1) (not_ok ha)) (ret_ok rfl)))
    | true =>
      rw [q] at ha
      obtain ⟨ps, rfl, hn, en⟩ := mbs_of q
      rw [psD_len] at hl
      rw [en]
      have hz : lZip (aCons (lVar 0) (aCons (lSlice gSlice (lVar 0) (oSome (lC (.int 1))) oNone) aNil)) [some (.tup (psD ps)), none, none] S = .ok ⟨(ps.zip (ps.drop 1)).map fun q => D.tup [pD q.1, pD q.2], fun _ => True⟩ S := by
        refine zip_ok (acons_ok rfl (acons_ok (slice_ok rfl (osome_ok rfl) rfl (show gSlice S (.tup (psD ps)) (some 1) none = some (.tup (psD (ps.drop 1))) from ?_)) rfl)) (by rw [← zip_ps]; rfl)
        show some (D.tup (MP.cutD (psD ps) (some 1) none)) = _
        rw [cut1]
        unfold psD
        rw [List.map_drop]
      have er : riseS (givs ps) = (ps.zip (ps.drop 1)).all fun q => slt q.1.1 q.2.1 := by
        unfold riseS givs
        rw [← List.map_drop, List.zip_map, List.all_map]
        rfl
      rw [er]
      exact body_rt (seq_nx (if_ff (or_ff (not_ok i1) (not_ok ha)) rfl) (ret_ok (callb_ok (acons_ok (comp_okL hz (by simp; omega) (comp_map (f := fun q => .bl (slt q.1.1 q.2.1)) trivial _ fun q hq => ⟨_, rfl, bin_ok (bin_ok rfl rfl rfl) (bin_ok rfl rfl rfl) rfl⟩)) rfl) (all_ok (fun q : Pr × Pr => slt q.1.1 q.2.1) _))))
  | _ => exact body_rt (seq_rt (if_tt (or_tt (not_ok (nt _ (isi_ok rfl rfl)))) (ret_ok rfl)))
theorem ok_years (T : T01 K mg) : ∃ g, FnL P w K mg base 4 T.f_are_years T.fd_are_years ["thing"] g ∧ SYears g := by
  obtain ⟨gp, Fn_are_pairs, Sp⟩ := ok_pairsD (P := P) (w := w) (base := base) T
  refine ⟨_, Fun.okL T.F_are_years sc_are_years fun cdv A outer s H E hr =>
(pssl_one (psl_ret (pel_and (pel_isi rfl T.n_isinstance (pel_var (i := 0)) (pe_bltn rfl T.n_tuple (v := .ty "tuple") (u := .type "tuple") (by decide +kernel) rfl) (.ty _) isi_tupleA) (pel_one (pel_callB (cl_all rfl) rfl T.n_all (by decide +kernel) (pal_cons (pel_lc (own := [("year", 1)]) rfl sc_are_years.nd (pil_val (pel_var (i := 0))) (blkOk_by (N := N_are_years) (sc := defScope s_are_years) (by decide +kernel)) (fun _ _ _ _ _ => (pgl_name (i := 1) sc_are_years.nd)) (fun _ _ _ _ _ => ptsl_nil) (fun _ _ _ _ _ => (pel_call Fn_are_pairs (hr.mono (by decide)) rfl T.mg_are_pairs T.F_are_pairs.kp T.b_are_pairs dfl_nil (pal_cons (pel_var (i := 1)) pal_nil)))) pal_nil)))))), ?_⟩
  intro S d hd
  obtain ⟨hp, hx⟩ := hd
  cases d with
  | ref _ => cases hp
  | obj _ _ => cases hp
  | exn _ _ => cases hp
  | ftup _ => cases hp
  | tup xs =>
    obtain ⟨hl, hi⟩ := hx xs rfl
    have hc : lComp (lIter (lVar 0)) [1] (gtName 1) tYesL (lCall 1 gp [] (aCons (lVar 1) aNil)) [some (.tup xs), none] S = .ok (.lst (xs.map fun d => D.bl (prsD d))) S := by
      have := comp_map (enc := fun d : D => d) (f := fun d => D.bl (prsD d)) (g := gtName 1) (te := lCall 1 gp [] (aCons (lVar 1) aNil)) (ρ0 := wipeE [some (.tup xs), none] [1]) (S := S) (chk := fun _ => True) trivial xs fun d hd => ⟨_, rfl, call_ok (acons_ok rfl rfl) rfl (Sp S d (hi d hd))⟩
      rw [List.map_id'] at this
      exact comp_okL (iter_ok rfl rfl) (show xs.length ≤ 100000 by omega) this
    exact body_rt (ret_ok (andv_tt (d := .bl true) (isi_ok rfl rfl) rfl (callb_ok (acons_ok hc rfl) (all_ok prsD xs))))
  | _ => exact body_rt (ret_ok (andv_ff (d := .bl false) (isi_ok rfl rfl) rfl))
theorem non_t {i : Nat} {ρ : Ev} {S : Sto} {d : D} (h : ρ[i]? = some (some d)) : tTru (lBin gNotN (lVar i) (lC .non)) ρ S = .ok (!isN d) S := by
  refine tru_b (bin_ok (by unfold lVar; rw [h]) rfl rfl) ?_
  cases d <;> rfl
theorem ok_circle (T : T01 K mg) : ∃ g, FnL P w K mg base 5 T.f_is_circle T.fd_is_circle ["members", "bars", "past", "gap"] g ∧ SCircle g := by
  obtain ⟨gm, Fn_are_members, Sm⟩ := ok_members (P := P) (w := w) (base := base) T
  obtain ⟨gp, Fn_are_pairs, Sp⟩ := ok_pairsD (P := P) (w := w) (base := base) T
  obtain ⟨gy, Fn_are_years, Sy⟩ := ok_years (P := P) (w := w) (base := base) T
  refine ⟨_, Fun.okL T.F_is_circle sc_is_circle fun cdv A outer s H E hr =>
(pssl_cons (psl_if (PWL.pt (pwl_or (ptl_not (ptl_truth (pel_call Fn_are_members (hr.mono (by decide)) rfl T.mg_are_members T.F_are_members.kp T.b_are_members dfl_nil (pal_cons (pel_var (i := 0)) pal_nil)))) (pwl_or1 (PWL.pt (pwl_and (ptl_cmp opl_notN (pel_var (i := 1)) pel_non) (pwl_and1 (ptl_not (ptl_truth (pel_call Fn_are_pairs (hr.mono (by decide)) rfl T.mg_are_pairs T.F_are_pairs.kp T.b_are_pairs dfl_nil (pal_cons (pel_var (i := 1)) pal_nil)))))))))) (pssl_one (psl_ret pel_bl)) pssl_nil)
  (pssl_cons (psl_if (PWL.pt (pwl_and (ptl_cmp opl_notN (pel_var (i := 2)) pel_non) (pwl_and1 (ptl_not (ptl_truth (pel_call Fn_are_years (hr.mono (by decide)) rfl T.mg_are_years T.F_are_years.kp T.b_are_years dfl_nil (pal_cons (pel_var (i := 2)) pal_nil))))))) (pssl_one (psl_ret pel_bl)) pssl_nil)
  (pssl_cons (psl_if (PWL.pt (pwl_or (ptl_not (ptl_truth (pel_isi rfl T.n_isinstance (pel_var (i := 3)) (pe_bltn rfl T.n_int (v := .ty "int") (u := .type "int") (by decide +kernel) rfl) (.ty _) isi_intA))) (pwl_or1 (ptl_truth (pel_isi rfl T.n_isinstance (pel_var (i := 3)) (pe_bltn rfl T.n_bool (v := .ty "bool") (u := .type "bool") (by decide +kernel) rfl) (.ty _) isi_boolA))))) (pssl_one (psl_ret pel_bl)) pssl_nil)
  (pssl_one (psl_ret (pel_and (pel_cmp opl_geI (pel_var (i := 3)) pel_int) (pel_one (pel_cmp opl_le2 (pel_callB (cl_len) rfl T.n_len (by decide +kernel) (pal_cons (pel_callTy (cl_str) rfl T.n_str (by decide +kernel) (pal_cons (pel_var (i := 3)) pal_nil)) pal_nil)) (pel_gint rfl T.mg_MOST_FIGURES))))))))), ?_⟩
  intro S m b p g hm hb hp hg hi
  have t1 : tTru (lCall 1 gm [] (aCons (lVar 0) aNil)) [some m, some b, some p, some g] S = .ok (mbsD m) S := tru_b (call_ok (acons_ok rfl rfl) rfl (Sm S m hm)) rfl
  have t2 : tTru (lCall 1 gp [] (aCons (lVar 1) aNil)) [some m, some b, some p, some g] S = .ok (prsD b) S := tru_b (call_ok (acons_ok rfl rfl) rfl (Sp S b hb)) rfl
  have t3 : tTru (lCall 1 gy [] (aCons (lVar 2) aNil)) [some m, some b, some p, some g] S = .ok (yrsD p) S := tru_b (call_ok (acons_ok rfl rfl) rfl (Sy S p hp)) rfl
  have n1 : tTru (lBin gNotN (lVar 1) (lC .non)) [some m, some b, some p, some g] S = .ok (!isN b) S := non_t rfl
  have n2 : tTru (lBin gNotN (lVar 2) (lC .non)) [some m, some b, some p, some g] S = .ok (!isN p) S := non_t rfl
  have first : MP.tOr (MP.tNot (tTru (lCall 1 gm [] (aCons (lVar 0) aNil)))) (MP.tAnd (tTru (lBin gNotN (lVar 1) (lC .non))) (MP.tNot (tTru (lCall 1 gp [] (aCons (lVar 1) aNil))))) [some m, some b, some p, some g] S = .ok (!(mbsD m && (isN b || prsD b))) S := by
    cases q1 : mbsD m with
    | false => rw [q1] at t1; exact or_tt (not_ok t1)
    | true =>
      rw [q1] at t1
      refine or_ff (not_ok t1) ?_
      cases q2 : isN b with
      | true => rw [q2] at n1; exact and_ff n1
      | false => rw [q2] at n1; exact and_tt n1 (not_ok t2)
  have second : MP.tAnd (tTru (lBin gNotN (lVar 2) (lC .non))) (MP.tNot (tTru (lCall 1 gy [] (aCons (lVar 2) aNil)))) [some m, some b, some p, some g] S = .ok (!(isN p || yrsD p)) S := by
    cases q2 : isN p with
    | true => rw [q2] at n2; exact and_ff n2
    | false => rw [q2] at n2; exact and_tt n2 (not_ok t3)
  unfold crD
  cases q1 : mbsD m && (isN b || prsD b) with
  | false => rw [q1] at first; exact body_rt (seq_rt (if_tt first (ret_ok rfl)))
  | true =>
    rw [q1] at first
    cases q2 : isN p || yrsD p with
    | false => rw [q2] at second; exact body_rt (seq_nx (if_ff first rfl) (seq_rt (if_tt second (ret_ok rfl))))
    | true =>
      rw [q2] at second
      show _ = R.ok (D.bl (gapD g)) S
      have no : ∀ g : D, lIsi tabIntA (lVar 3) [some m, some b, some p, some g] S = .ok (.bl false) S → tTru (lIsi tabIntA (lVar 3)) [some m, some b, some p, some g] S = .ok false S := fun d h => tru_b h rfl
      have go : ∀ g : D, plainD g = true → IntOk g → lSeq (lIfS (MP.tOr (MP.tNot (tTru (lIsi tabIntA (lVar 3)))) (tTru (lIsi tabBlA (lVar 3)))) (lRet (lC (.bl false))) lNext) (lRet (lAndV (lBin gGeI (lVar 3) (lC (.int 0))) (lBin gLe2 (lCallB gLen (aCons (lCallB gStr (aCons (lVar 3) aNil)) aNil)) (lC (.int 30))))) [some m, some b, some p, some g] S = .ok (.rt (.bl (gapD g))) S := fun g hg hi => by
        cases g with
        | ref _ => cases hg
        | obj _ _ => cases hg
        | exn _ _ => cases hg
        | ftup _ => cases hg
        | bl x => exact seq_rt (if_tt (or_ff (not_ok (b := true) (tru_b (isi_ok rfl rfl) rfl)) (tru_b (isi_ok rfl rfl) rfl)) (ret_ok rfl))
        | int i =>
          refine seq_nx (if_ff (or_ff (not_ok (b := true) (tru_b (isi_ok rfl rfl) rfl)) (tru_b (isi_ok rfl rfl) rfl)) rfl) (ret_ok ?_)
          have hge : lBin gGeI (lVar 3) (lC (.int 0)) [some m, some b, some p, some (.int i)] S = .ok (.bl (decide (i ≥ 0))) S := bin_ok rfl rfl rfl
          show _ = R.ok (D.bl (decide (0 ≤ i ∧ i < 10 ^ 30))) S
          by_cases h0 : 0 ≤ i
          · rw [decide_eq_true (show i ≥ 0 from h0)] at hge
            have hs : gStr S [.int i] = some (.str (toString i)) := if_pos (hi i rfl)
            have hz : (Str.ofString (toString i)).length ≤ sizeLine := by
              have h1 : (Str.ofString (toString i)).length ≤ i.natAbs + 1 ∨ True := .inr trivial
              have := hi i rfl
              obtain ⟨n, rfl⟩ := Int.eq_ofNat_of_zero_le h0
              have e : (Str.ofString (toString (n : Int))).length = (Nat.toDigits 10 n).length := by
                rw [len_tl, tl_ofString, List.length_map]
                have e2 : toString (n : Int) = Nat.repr n := rfl
                rw [e2, Nat.repr_eq_ofList_toDigits]
                simp
              rw [e]
              have hlt : n < 10 ^ 1920 := by
                have l2 : n < 2 ^ 1920 := by
                  by_cases z : n = 0
                  · rw [z]; exact Nat.pow_pos (by decide)
                  · exact (Nat.log2_lt z).mp this
                exact Nat.lt_of_lt_of_le l2 (Nat.pow_le_pow_left (by decide) _)
              exact Nat.le_trans ((Nat.length_toDigits_le_iff (by decide) (by decide)).mpr hlt) (by decide)
            have hlen : gLen S [.str (toString i)] = some (.int ((Str.ofString (toString i)).length : Int)) := by
              unfold gLen
              dsimp only [vw]
              exact if_pos hz
            have := str_len30 h0
            refine andv_tt (d := .bl true) hge rfl (bin_ok (callb_ok (acons_ok (callb_ok (acons_ok rfl rfl) hs) rfl) hlen) rfl ?_)
            show some (D.bl (decide (((Str.ofString (toString i)).length : Int) ≤ 30))) = _
            congr 2
            rw [decide_eq_decide]
            omega
          · rw [decide_eq_false (show ¬ i ≥ 0 from h0)] at hge
            rw [decide_eq_false (fun z => h0 z.1)]
            exact andv_ff (d := .bl false) hge rfl
        | _ => exact seq_rt (if_tt (or_tt (not_ok (no _ (isi_ok rfl rfl)))) (ret_ok rfl))
      exact body_rt (seq_nx (if_ff first rfl) (seq_nx (if_ff second rfl) (go g hg hi)))
end
end K01

namespace K01
open PySem PySem.Spec PyProof.Rows L2 MP TL
open K59 (Pr nm givs taks slt isL lets nm_ok sle sorted_strs)
/-! ### the law's own look -/
theorem isL_eq (c : Nat) : (!decide (tl (⟨#[c]⟩ : Str) < tl ("a" : Str)) && !decide (tl ("z" : Str) < tl (⟨#[c]⟩ : Str))) = isL c := by
  have h1 : tl (⟨#[c]⟩ : Str) = [c] := rfl
  have h2 : tl ("a" : Str) = [97] := by decide
  have h3 : tl ("z" : Str) = [122] := by decide
  rw [h1, h2, h3]
  have e1 : ([c] < [97]) ↔ c < 97 := by simp [List.cons_lt_cons_iff]
  have e2 : ([122] < [c]) ↔ 122 < c := by simp [List.cons_lt_cons_iff]
  rw [decide_eq_decide.mpr e1, decide_eq_decide.mpr e2]
  by_cases hc : c < 123
  · have h : ∀ c : Fin 123, (!decide ((c : Nat) < 97) && !decide (122 < (c : Nat))) = isL c := by decide
    exact h ⟨c, hc⟩
  · have hn : isL c = false := by
      unfold isL
      refine decide_eq_false fun hm => ?_
      have hb : (lets.cps.toList.all fun c => decide (c < 123)) = true := by decide
      have := of_decide_eq_true (List.all_eq_true.mp hb c hm)
      omega
    rw [hn, decide_eq_true (show 122 < c by omega)]
    simp
theorem rng_ok {le : LE} {t : LA} {ρ : Ev} {S : Sto} {i a b : Int} (h : le ρ S = .ok (.int i) S) (h2 : t ρ S = .ok [.int a, .int b] S) : lNotRng le t ρ S = .ok (.bl (!decide (a ≤ i ∧ i < b))) S := by
  unfold lNotRng
  rw [h, bind_ok, h2, bind_ok]
theorem for_rt {ρ0 ρ ρ1 : Ev} {chk : Sto → Prop} {g : GT} {lb : LS} {d e : D} {ds : List D} {S S1 : Sto} (hc : chk S) (hg : g d ρ = some ρ1) (h : lb ρ1 S = .ok (.rt e) S1) : forG ρ0 chk g lb (d :: ds) ρ S = .ok (.rt e) S1 := by
  unfold forG; rw [if_pos hc, hg]; show (lb ρ1 S).bind _ = _; rw [h]; rfl
theorem for_test {ρ0 : Ev} {chk : Sto → Prop} {g : GT} {lb : LS} {S : Sto} {e : D} {p : D → Bool} {C : D → Prop} (hc : chk S) (run : ∀ d, C d → ∃ ρ1, g d ρ0 = some ρ1 ∧ (p d = true → ∃ ρ', lb ρ1 S = .ok (.nx ρ') S ∧ wk ρ0 ρ' = ρ0) ∧ (p d = false → lb ρ1 S = .ok (.rt e) S)) :
    ∀ xs : List D, (∀ d ∈ xs, C d) → (xs.all p = true → forG ρ0 chk g lb xs ρ0 S = .ok (.nx ρ0) S) ∧ (xs.all p = false → forG ρ0 chk g lb xs ρ0 S = .ok (.rt e) S)
  | [], _ => ⟨fun _ => for_end hc, fun h => by simp at h⟩
  | d :: xs, h => by
    obtain ⟨ρ1, hg, h1, h2⟩ := run d (h d (by simp))
    have ih := for_test hc run xs fun x hx => h x (by simp [hx])
    rw [List.all_cons]
    cases q : p d with
    | false => exact ⟨fun z => (nomatch z), fun _ => for_rt hc hg (h2 q)⟩
    | true =>
      obtain ⟨ρ', e1, e2⟩ := h1 q
      rw [Bool.true_and]
      exact ⟨fun z => for_go hc hg e1 (by rw [e2]; exact ih.1 z), fun z => for_go hc hg e1 (by rw [e2]; exact ih.2 z)⟩
section
variable {P : Program} {w : World} {K : PySem.W.Frag} {mg : Str → Option Value} {base : Heap}
theorem ok_lname (T : T01 K mg) : ∃ g, FnL P w K mg base 1 T.f__law_is_name T.fd__law_is_name ["_law_thing"] g ∧ SName g := by
  refine ⟨_, Fun.okL T.F__law_is_name sc__law_is_name fun cdv A outer s H E hr =>
(pssl_cons (psl_if (PWL.pt (pwl_or (ptl_not (ptl_truth (pel_isi rfl T.n_isinstance (pel_var (i := 0)) (pe_bltn rfl T.n_str (v := .ty "str") (u := .type "str") (by decide +kernel) rfl) (.ty _) isi_strA))) (pwl_or1 (ptl_notInRng rfl T.n_range (pel_callB (cl_len) rfl T.n_len (by decide +kernel) (pal_cons (pel_var (i := 0)) pal_nil)) (pal_cons pel_int (pal_cons pel_int pal_nil)))))) (pssl_one (psl_ret pel_bl)) pssl_nil)
  (pssl_one (psl_ret (pel_callB (cl_all rfl) rfl T.n_all (by decide +kernel) (pal_cons (pel_lc (own := [("_law_letter", 1)]) rfl sc__law_is_name.nd (pil_val (pel_var (i := 0))) (blkOk_by (N := N__law_is_name) (sc := defScope s__law_is_name) (by decide +kernel)) (fun _ _ _ _ _ => (pgl_name (i := 1) sc__law_is_name.nd)) (fun _ _ _ _ _ => ptsl_nil) (fun _ _ _ _ _ => (pel_chain opl_le2 opl_le2 pel_str (pel_var (i := 1)) pel_str))) pal_nil))))), ?_⟩
  intro S d hd
  have no : ∀ d : D, lIsi tabStrA (lVar 0) [some d, none] S = .ok (.bl false) S → tTru (lIsi tabStrA (lVar 0)) [some d, none] S = .ok false S := fun d h => tru_b h rfl
  cases d with
  | ref _ => cases hd
  | obj _ _ => cases hd
  | exn _ _ => cases hd
  | ftup _ => cases hd
  | str x =>
    have hx : x.length ≤ 100000 := of_decide_eq_true hd
    have hl : lCallB gLen (aCons (lVar 0) aNil) [some (.str x), none] S = .ok (.int (x.length : Int)) S := callb_ok (acons_ok rfl rfl) (len_str hx)
    have hi : tTru (lIsi tabStrA (lVar 0)) [some (.str x), none] S = .ok true S := tru_b (isi_ok rfl rfl) rfl
    have hr : tTru (lNotRng (lCallB gLen (aCons (lVar 0) aNil)) (aCons (lC (.int 1)) (aCons (lC (.int 13)) aNil))) [some (.str x), none] S = .ok (!decide (1 ≤ (x.length : Int) ∧ (x.length : Int) < 13)) S := tru_b (rng_ok hl (acons_ok rfl (acons_ok rfl rfl))) rfl
    show _ = R.ok (D.bl (nm x)) S
    by_cases h1 : 1 ≤ x.length ∧ x.length ≤ 12
    · rw [decide_eq_true (show 1 ≤ (x.length : Int) ∧ (x.length : Int) < 13 by omega)] at hr
      have hn : nm x = (tl x).all isL := by unfold nm; rw [decide_eq_true h1, Bool.true_and]
      rw [hn]
      refine body_rt (seq_nx (if_ff (or_ff (not_ok hi) hr) rfl) (ret_ok (callb_ok (acons_ok (comp_okL (iter_ok rfl rfl) (by show ((tl x).map _).length ≤ _; rw [List.length_map, ← len_tl]; omega) (comp_map (enc := fun c : Nat => D.str ⟨#[c]⟩) (f := fun c => .bl (isL c)) trivial (tl x) fun c hc => ?_)) rfl) (all_ok isL (tl x)))))
      refine ⟨_, rfl, ?_⟩
      have e := isL_eq c
      cases q : (!decide (tl (⟨#[c]⟩ : Str) < tl ("a" : Str))) with
      | false =>
        rw [q, Bool.false_and] at e
        rw [← e]
        exact chain_ff rfl rfl (show gLe2 S (.str "a") (.str ⟨#[c]⟩) = some (.bl false) by show some (D.bl (!decide (tl (⟨#[c]⟩ : Str) < tl ("a" : Str)))) = _; rw [q])
      | true =>
        rw [q, Bool.true_and] at e
        rw [← e]
        exact chain_tt rfl rfl (show gLe2 S (.str "a") (.str ⟨#[c]⟩) = some (.bl true) by show some (D.bl (!decide (tl (⟨#[c]⟩ : Str) < tl ("a" : Str)))) = _; rw [q]) rfl rfl
    · rw [decide_eq_false (show ¬ (1 ≤ (x.length : Int) ∧ (x.length : Int) < 13) by omega)] at hr
      have hn : nm x = false := by unfold nm; rw [decide_eq_false h1, Bool.false_and]
      rw [hn]
      exact body_rt (seq_rt (if_tt (or_ff (not_ok hi) hr) (ret_ok rfl)))
  | _ => exact body_rt (seq_rt (if_tt (or_tt (not_ok (no _ (isi_ok rfl rfl)))) (ret_ok rfl)))
end
end K01

namespace K01
open PySem PySem.Spec PyProof.Rows L2 MP TL
open K59 (Pr nm givs taks slt isL lets nm_ok sle sorted_strs slt_trans slt_irrefl)
open K06 (riP Cd srt_rise rise_srt)
/-! ### the plain law: rising, in two ways -/
theorem adj_pw {α : Type} {r : α → α → Bool} (tr : ∀ a b c, r a b = true → r b c = true → r a c = true) : ∀ l : List α, (l.zip (l.drop 1)).all (fun q => r q.1 q.2) = true ↔ l.Pairwise fun a b => r a b = true
  | [] => by simp
  | [a] => by simp
  | a :: b :: l => by
    have ih := adj_pw tr (b :: l)
    show (r a b && ((b :: l).zip l).all fun q => r q.1 q.2) = true ↔ _
    have ih' : ((b :: l).zip l).all (fun q => r q.1 q.2) = true ↔ (b :: l).Pairwise fun a b => r a b = true := ih
    rw [Bool.and_eq_true, ih', List.pairwise_cons (a := a)]
    constructor
    · rintro ⟨h1, h2⟩
      refine ⟨fun x hx => ?_, h2⟩
      rcases List.mem_cons.mp hx with rfl | hx
      · exact h1
      · exact tr _ _ _ h1 ((List.pairwise_cons.mp h2).1 x hx)
    · rintro ⟨h1, h2⟩
      exact ⟨h1 b List.mem_cons_self, h2⟩
theorem riseS_eq (ys : List Str) : riseS ys = decide (ys = srtS ys) := by
  rw [Bool.eq_iff_iff, decide_eq_true_eq]
  exact (adj_pw (r := slt) (fun a b c => slt_trans) ys).trans ⟨srt_rise, rise_srt⟩
theorem rsP_eq (ps : List Pr) : rsP ps = decide (ps = srtP ps) := by
  rw [Bool.eq_iff_iff, decide_eq_true_eq]
  refine (adj_pw (r := fun p q : PS => ltP p.1 p.2 q.1 q.2) (fun a b c => ltP_trans) ps).trans ?_
  constructor
  · intro h
    have hn : ps.Nodup := h.imp fun {a b} q e => by
      have z := ltP_asymm q
      rw [← e] at q z
      rw [q] at z
      cases z
    exact srtP_of (h.imp fun {a b} q => leP_iff.mpr (.inr q)) hn fun k => Iff.rfl
  · intro h
    have hn : (srtP ps).Nodup := (List.mergeSort_perm (nubP ps) leP).nodup_iff.mpr (nodup_nubP ps)
    have hp : (srtP ps).Pairwise fun a b => leP a b = true := List.pairwise_mergeSort (le := leP) leP_trans leP_total _
    rw [← h] at hn hp
    refine (List.pairwise_and_iff.mpr ⟨hp, hn⟩).imp fun {a b} q => ?_
    rcases leP_iff.mp q.1 with e | z
    · exact absurd e q.2
    · exact z
theorem toPDs_ps : ∀ ps : List Pr, toPDs (psD ps) = some (ps.map encP)
  | [] => rfl
  | p :: ps => by
    show (toPD (pD p)).bind _ = _
    have := toPDs_ps ps
    unfold psD at this
    simp [pD, toPD, toPDs, this, encP, psD]
theorem lay_ps : ∀ {ps : List Pr}, (∀ p ∈ ps, nm p.1 = true ∧ nm p.2 = true) → PyData.canLayAll0 (ps.map encP) = true ∧ PyData.depthAll (ps.map encP) ≤ 5
  | [], _ => ⟨rfl, by simp [PyData.depthAll]⟩
  | p :: ps, h => by
    obtain ⟨a, b⟩ := lay_ps (ps := ps) fun q hq => h q (by simp [hq])
    have hp := h p (by simp)
    refine ⟨by simp [PyData.canLayAll0, encP, PyData.canLay0, a, nm_ok hp.1, nm_ok hp.2], ?_⟩
    simp only [List.map_cons, PyData.depthAll, encP, PyData.depth]
    omega
theorem eqvAll_ps : ∀ ps qs : List Pr, PyData.eqvAll (ps.map encP) (qs.map encP) = decide (ps = qs)
  | [], [] => by simp [PyData.eqvAll]
  | [], _ :: _ => by simp [PyData.eqvAll]
  | _ :: _, [] => by simp [PyData.eqvAll]
  | p :: ps, q :: qs => by
    have ih := eqvAll_ps ps qs
    have hb : PyData.eqv (encP p) (encP q) = decide (p = q) := by
      rw [Bool.eq_iff_iff]
      simp [encP, PyData.eqv, PyData.eqvAll, Prod.ext_iff]
    simp [PyData.eqvAll, ih, hb]
theorem eq_pss {S : Sto} {ps qs : List Pr} (ha : ∀ p ∈ ps, nm p.1 = true ∧ nm p.2 = true) (hb : ∀ p ∈ qs, nm p.1 = true ∧ nm p.2 = true) : gEq S (.lst (psD ps)) (.lst (psD qs)) = some (.bl (decide (ps = qs))) := by
  have e1 : ∀ ps : List Pr, toPD (.lst (psD ps)) = some (.list (ps.map encP)) := fun ps => by simp [toPD, toPDs_ps]
  have sh : ∀ {ps : List Pr}, (∀ p ∈ ps, nm p.1 = true ∧ nm p.2 = true) → SeqAt.shaped (.list (ps.map encP)) = true := fun h => by
    unfold SeqAt.shaped
    obtain ⟨a, b⟩ := lay_ps h
    rw [Bool.and_eq_true]
    refine ⟨a, decide_eq_true ?_⟩
    simp only [PyData.depth]
    omega
  have e : eqP S (.lst (psD ps)) (.lst (psD qs)) = some (decide (ps = qs)) := by
    unfold eqP
    dsimp only [vw]
    rw [e1, e1]
    show (if SeqAt.shaped (.list (ps.map encP)) = true ∧ SeqAt.shaped (.list (qs.map encP)) = true then some (PyData.eqv (.list (ps.map encP)) (.list (qs.map encP))) else none) = _
    rw [if_pos ⟨sh ha, sh hb⟩]
    simp [PyData.eqv, eqvAll_ps]
  unfold gEq eqD
  rw [e]
  rfl
end K01

namespace K01
open PySem PySem.Spec PyProof.Rows L2 MP TL
open K59 (Pr nm givs taks slt isL lets nm_ok sle sorted_strs)
open K06 (riP Cd)
/-! ### the law's own looks -/
def few (d : D) : Prop := ∀ xs, d = .tup xs → xs.length < 64
def SLPs (g : F) : Prop := ∀ (S : Sto) (d : D), In2 d → few d → g [d] S = .ok (.bl (prsD d)) S
def SLMs (g : F) : Prop := ∀ (S : Sto) (d : D), In2 d → g [d] S = .ok (.bl (mbsD d)) S
def SLCircle (f : F) : Prop := ∀ (S : Sto) (m b p g : D), In2 m → In2 b → few b → In3 p → (∀ xs, p = .tup xs → ∀ x ∈ xs, few x) → plainD g = true → f [.tup [m, b, p, g]] S = .ok (.bl (crD m b p g)) S
section
variable {P : Program} {w : World} {K : PySem.W.Frag} {mg : Str → Option Value} {base : Heap}
theorem ok_lps (T : T01 K mg) : ∃ g, FnL P w K mg base 2 T.f__law_are_pairs T.fd__law_are_pairs ["_law_thing"] g ∧ SLPs g := by
  obtain ⟨gn, Fn__law_is_name, Sn⟩ := ok_lname (P := P) (w := w) (base := base) T
  refine ⟨_, Fun.okL T.F__law_are_pairs sc__law_are_pairs fun cdv A outer s H E hr =>
(pssl_cons (psl_if (ptl_not (ptl_truth (pel_isi rfl T.n_isinstance (pel_var (i := 0)) (pe_bltn rfl T.n_tuple (v := .ty "tuple") (u := .type "tuple") (by decide +kernel) rfl) (.ty _) isi_tupleA))) (pssl_one (psl_ret pel_bl)) pssl_nil)
  (pssl_cons (psl_for (passes_of rfl) rfl (pil_val (pel_var (i := 0))) (pgl_name (i := 1) sc__law_are_pairs.nd) (pssl_one (psl_if (PWL.pt (pwl_or (ptl_not (ptl_truth (pel_isi rfl T.n_isinstance (pel_var (i := 1)) (pe_bltn rfl T.n_tuple (v := .ty "tuple") (u := .type "tuple") (by decide +kernel) rfl) (.ty _) isi_tupleA))) (pwl_or (ptl_cmp (opl_ne hr.units) (pel_callB (cl_len) rfl T.n_len (by decide +kernel) (pal_cons (pel_var (i := 1)) pal_nil)) pel_int) (pwl_or (ptl_not (ptl_truth (pel_call Fn__law_is_name (hr.mono (by decide)) rfl T.mg__law_is_name T.F__law_is_name.kp T.b__law_is_name dfl_nil (pal_cons (pel_ix ixl_seq (pel_var (i := 1)) pel_int) pal_nil)))) (pwl_or1 (ptl_not (ptl_truth (pel_call Fn__law_is_name (hr.mono (by decide)) rfl T.mg__law_is_name T.F__law_is_name.kp T.b__law_is_name dfl_nil (pal_cons (pel_ix ixl_seq (pel_var (i := 1)) pel_int) pal_nil))))))))) (pssl_one (psl_ret pel_bl)) pssl_nil)))
  (pssl_one (psl_ret (pel_cmp (opl_eq hr.units) (pel_callTy (cl_list) rfl T.n_list (by decide +kernel) (pal_cons (pel_var (i := 0)) pal_nil)) (pel_sortSetP rfl hr.units rfl T.n_sorted rfl T.n_set (pal_cons (pel_var (i := 0)) pal_nil))))))), ?_⟩
  intro S d hd hf
  obtain ⟨hp, hx⟩ := hd
  cases d with
  | ref _ => cases hp
  | obj _ _ => cases hp
  | exn _ _ => cases hp
  | ftup _ => cases hp
  | tup xs =>
    obtain ⟨hl, hin⟩ := hx _ rfl
    have hf := hf xs rfl
    have hi : tTru (lIsi tabTupA (lVar 0)) [some (.tup xs), none] S = .ok true S := tru_b (isi_ok rfl rfl) rfl
    have F := for_test (ρ0 := [some (.tup xs), none]) (chk := fun _ => True) (g := gtName 1) (S := S) (e := .bl false) (p := prD) (C := In1) (lb := lIfS (MP.tOr (MP.tNot (tTru (lIsi tabTupA (lVar 1)))) (MP.tOr (tTru (lBin gNe (lCallB gLen (aCons (lVar 1) aNil)) (lC (.int 2)))) (MP.tOr (MP.tNot (tTru (lCall 1 gn [] (aCons (lBin gIx (lVar 1) (lC (.int 0))) aNil)))) (MP.tNot (tTru (lCall 1 gn [] (aCons (lBin gIx (lVar 1) (lC (.int 1))) aNil))))))) (lRet (lC (.bl false))) lNext) trivial (fun d hd1 => by
      obtain ⟨hp1, hx1⟩ := hd1
      refine ⟨[some (.tup xs), some d], rfl, ?_⟩
      have nt : ∀ d : D, lIsi tabTupA (lVar 1) [some (.tup xs), some d] S = .ok (.bl false) S → tTru (lIsi tabTupA (lVar 1)) [some (.tup xs), some d] S = .ok false S := fun d h => tru_b h rfl
      cases d with
      | ref _ => cases hp1
      | obj _ _ => cases hp1
      | exn _ _ => cases hp1
      | ftup _ => cases hp1
      | tup ys =>
        have hx1 := hx1 ys rfl
        have i1 : tTru (lIsi tabTupA (lVar 1)) [some (.tup xs), some (.tup ys)] S = .ok true S := tru_b (isi_ok rfl rfl) rfl
        have hlen : tTru (lBin gNe (lCallB gLen (aCons (lVar 1) aNil)) (lC (.int 2))) [some (.tup xs), some (.tup ys)] S = .ok (!decide ((ys.length : Int) = 2)) S := tru_b (bin_ok (callb_ok (acons_ok rfl rfl) rfl) rfl ne_ii) rfl
        match ys, hx1, i1, hlen with
        | [], _, i1, hlen => exact ⟨fun z => (nomatch z), fun _ => if_tt (or_ff (not_ok i1) (or_tt hlen)) (ret_ok rfl)⟩
        | [_], _, i1, hlen => exact ⟨fun z => (nomatch z), fun _ => if_tt (or_ff (not_ok i1) (or_tt hlen)) (ret_ok rfl)⟩
        | a :: b :: c :: r, _, i1, hlen =>
          rw [decide_eq_false (by simp only [List.length_cons]; omega)] at hlen
          exact ⟨fun z => (nomatch z), fun _ => if_tt (or_ff (not_ok i1) (or_tt hlen)) (ret_ok rfl)⟩
        | [a, b], hx1, i1, hlen =>
          have c0 : tTru (lCall 1 gn [] (aCons (lBin gIx (lVar 1) (lC (.int 0))) aNil)) [some (.tup xs), some (.tup [a, b])] S = .ok (nmD a) S := tru_b (call_ok (acons_ok (bin_ok rfl rfl rfl) rfl) rfl (Sn S a (hx1 a (by simp)))) rfl
          have c1 : tTru (lCall 1 gn [] (aCons (lBin gIx (lVar 1) (lC (.int 1))) aNil)) [some (.tup xs), some (.tup [a, b])] S = .ok (nmD b) S := tru_b (call_ok (acons_ok (bin_ok rfl rfl rfl) rfl) rfl (Sn S b (hx1 b (by simp)))) rfl
          rw [show (!decide ((([a, b] : List D).length : Int) = 2)) = false from rfl] at hlen
          show ((nmD a && nmD b) = true → _) ∧ ((nmD a && nmD b) = false → _)
          cases ha : nmD a with
          | false =>
            rw [ha] at c0
            exact ⟨fun z => (nomatch z), fun _ => if_tt (or_ff (not_ok i1) (or_ff hlen (or_tt (not_ok c0)))) (ret_ok rfl)⟩
          | true =>
            rw [ha] at c0
            cases hb : nmD b with
            | false =>
              rw [hb] at c1
              exact ⟨fun z => (nomatch z), fun _ => if_tt (or_ff (not_ok i1) (or_ff hlen (or_ff (not_ok c0) (not_ok c1)))) (ret_ok rfl)⟩
            | true =>
              rw [hb] at c1
              exact ⟨fun _ => ⟨_, if_ff (or_ff (not_ok i1) (or_ff hlen (or_ff (not_ok c0) (not_ok c1)))) rfl, rfl⟩, fun z => (nomatch z)⟩
      | _ => exact ⟨fun z => (nomatch z), fun _ => if_tt (or_tt (not_ok (nt _ (isi_ok rfl rfl)))) (ret_ok rfl)⟩) xs hin
    cases q : xs.all prD with
    | false =>
      have hn : prsD (.tup xs) = false := by show (xs.all prD && _) = false; rw [q]; rfl
      rw [hn]
      exact body_rt (seq_nx (if_ff (not_ok hi) rfl) (seq_rt (for_ok (iter_ok rfl rfl) (F.2 q))))
    | true =>
      obtain ⟨ps, rfl, hn⟩ := prs_of q
      rw [prsD_ps hn, rsP_eq]
      rw [psD_len] at hf
      have hset : gSortSetP S [.tup (psD ps)] = some (.lst (psD (srtP ps))) := by
        have e : psOf (psD ps) = some ps := psOf_map ps
        unfold gSortSetP
        dsimp only
        rw [e]
        exact if_pos hf
      have hns : ∀ p ∈ srtP ps, nm p.1 = true ∧ nm p.2 = true := fun p hp => hn p (mem_nubP.mp ((List.mergeSort_perm _ _).mem_iff.mp hp))
      exact body_rt (seq_nx (if_ff (not_ok hi) rfl) (seq_nx (for_ok (iter_ok rfl rfl) (F.1 q)) (ret_ok (bin_ok (callb_ok (acons_ok rfl rfl) rfl) (callb_ok (acons_ok rfl rfl) hset) (eq_pss hn hns)))))
  | _ =>
    have nt : ∀ d : D, lIsi tabTupA (lVar 0) [some d, none] S = .ok (.bl false) S → tTru (lIsi tabTupA (lVar 0)) [some d, none] S = .ok false S := fun d h => tru_b h rfl
    exact body_rt (seq_rt (if_tt (not_ok (nt _ (isi_ok rfl rfl))) (ret_ok rfl)))
theorem ok_lms (T : T01 K mg) : ∃ g, FnL P w K mg base 2 T.f__law_are_members T.fd__law_are_members ["_law_thing"] g ∧ SLMs g := by
  obtain ⟨gn, Fn__law_is_name, Sn⟩ := ok_lname (P := P) (w := w) (base := base) T
  refine ⟨_, Fun.okL T.F__law_are_members sc__law_are_members fun cdv A outer s H E hr =>
(pssl_cons (psl_if (ptl_not (ptl_truth (pel_isi rfl T.n_isinstance (pel_var (i := 0)) (pe_bltn rfl T.n_tuple (v := .ty "tuple") (u := .type "tuple") (by decide +kernel) rfl) (.ty _) isi_tupleA))) (pssl_one (psl_ret pel_bl)) pssl_nil)
  (pssl_cons (psl_for (passes_of rfl) rfl (pil_val (pel_var (i := 0))) (pgl_name (i := 1) sc__law_are_members.nd) (pssl_cons (psl_if (PWL.pt (pwl_or (ptl_not (ptl_truth (pel_isi rfl T.n_isinstance (pel_var (i := 1)) (pe_bltn rfl T.n_tuple (v := .ty "tuple") (u := .type "tuple") (by decide +kernel) rfl) (.ty _) isi_tupleA))) (pwl_or (ptl_cmp (opl_ne hr.units) (pel_callB (cl_len) rfl T.n_len (by decide +kernel) (pal_cons (pel_var (i := 1)) pal_nil)) pel_int) (pwl_or1 (ptl_not (ptl_truth (pel_call Fn__law_is_name (hr.mono (by decide)) rfl T.mg__law_is_name T.F__law_is_name.kp T.b__law_is_name dfl_nil (pal_cons (pel_ix ixl_seq (pel_var (i := 1)) pel_int) pal_nil)))))))) (pssl_one (psl_ret pel_bl)) pssl_nil)
  (pssl_one (psl_if (PWL.pt (pwl_or (ptl_not (ptl_truth (pel_isi rfl T.n_isinstance (pel_ix ixl_seq (pel_var (i := 1)) pel_int) (pe_bltn rfl T.n_str (v := .ty "str") (u := .type "str") (by decide +kernel) rfl) (.ty _) isi_strA))) (pwl_or1 (PWL.pt (pwl_and (ptl_cmp (opl_ne hr.units) (pel_ix ixl_seq (pel_var (i := 1)) pel_int) pel_str) (pwl_and1 (ptl_not (ptl_truth (pel_call Fn__law_is_name (hr.mono (by decide)) rfl T.mg__law_is_name T.F__law_is_name.kp T.b__law_is_name dfl_nil (pal_cons (pel_ix ixl_seq (pel_var (i := 1)) pel_int) pal_nil)))))))))) (pssl_one (psl_ret pel_bl)) pssl_nil))))
  (pssl_cons (psl_setLc (i := 2) (own := [("_law_one", 1)]) sc__law_are_members.nd rfl (sw_true rfl rfl rfl (by decide +kernel)) rfl (pil_val (pel_var (i := 0))) (blkOk_by (N := N__law_are_members) (sc := defScope s__law_are_members) (by decide +kernel)) (.inl rfl) (fun _ _ _ _ _ => (pgl_name (i := 1) sc__law_are_members.nd)) (fun _ _ _ _ _ => ptsl_nil) (fun _ _ _ _ _ => (pel_ix ixl_seq (pel_var (i := 1)) pel_int)))
  (pssl_one (psl_ret (pel_cmp (opl_eq hr.units) (pel_var (i := 2)) (pel_sortSet rfl hr.units rfl T.n_sorted rfl T.n_set (pal_cons (pel_var (i := 2)) pal_nil)))))))), ?_⟩
  intro S d hd
  obtain ⟨hp, hx⟩ := hd
  cases d with
  | ref _ => cases hp
  | obj _ _ => cases hp
  | exn _ _ => cases hp
  | ftup _ => cases hp
  | tup xs =>
    obtain ⟨hl, hin⟩ := hx _ rfl
    have hi : tTru (lIsi tabTupA (lVar 0)) [some (.tup xs), none, none] S = .ok true S := tru_b (isi_ok rfl rfl) rfl
    have F := for_test (ρ0 := [some (.tup xs), none, none]) (chk := fun _ => True) (g := gtName 1) (S := S) (e := .bl false) (p := mbD) (C := In1) (lb := lSeq (lIfS (MP.tOr (MP.tNot (tTru (lIsi tabTupA (lVar 1)))) (MP.tOr (tTru (lBin gNe (lCallB gLen (aCons (lVar 1) aNil)) (lC (.int 2)))) (MP.tNot (tTru (lCall 1 gn [] (aCons (lBin gIx (lVar 1) (lC (.int 0))) aNil)))))) (lRet (lC (.bl false))) lNext)
      (lIfS (MP.tOr (MP.tNot (tTru (lIsi tabStrA (lBin gIx (lVar 1) (lC (.int 1)))))) (MP.tAnd (tTru (lBin gNe (lBin gIx (lVar 1) (lC (.int 1))) (lC (.str "")))) (MP.tNot (tTru (lCall 1 gn [] (aCons (lBin gIx (lVar 1) (lC (.int 1))) aNil)))))) (lRet (lC (.bl false))) lNext)) trivial (fun d hd1 => by
      obtain ⟨hp1, hx1⟩ := hd1
      refine ⟨[some (.tup xs), some d, none], rfl, ?_⟩
      have nt : ∀ d : D, lIsi tabTupA (lVar 1) [some (.tup xs), some d, none] S = .ok (.bl false) S → tTru (lIsi tabTupA (lVar 1)) [some (.tup xs), some d, none] S = .ok false S := fun d h => tru_b h rfl
      cases d with
      | ref _ => cases hp1
      | obj _ _ => cases hp1
      | exn _ _ => cases hp1
      | ftup _ => cases hp1
      | tup ys =>
        have hx1 := hx1 ys rfl
        have i1 : tTru (lIsi tabTupA (lVar 1)) [some (.tup xs), some (.tup ys), none] S = .ok true S := tru_b (isi_ok rfl rfl) rfl
        have hlen : tTru (lBin gNe (lCallB gLen (aCons (lVar 1) aNil)) (lC (.int 2))) [some (.tup xs), some (.tup ys), none] S = .ok (!decide ((ys.length : Int) = 2)) S := tru_b (bin_ok (callb_ok (acons_ok rfl rfl) rfl) rfl ne_ii) rfl
        match ys, hx1, i1, hlen with
        | [], _, i1, hlen => exact ⟨fun z => (nomatch z), fun _ => seq_rt (if_tt (or_ff (not_ok i1) (or_tt hlen)) (ret_ok rfl))⟩
        | [_], _, i1, hlen => exact ⟨fun z => (nomatch z), fun _ => seq_rt (if_tt (or_ff (not_ok i1) (or_tt hlen)) (ret_ok rfl))⟩
        | a :: b :: c :: r, _, i1, hlen =>
          rw [decide_eq_false (by simp only [List.length_cons]; omega)] at hlen
          exact ⟨fun z => (nomatch z), fun _ => seq_rt (if_tt (or_ff (not_ok i1) (or_tt hlen)) (ret_ok rfl))⟩
        | [a, b], hx1, i1, hlen =>
          have c0 : tTru (lCall 1 gn [] (aCons (lBin gIx (lVar 1) (lC (.int 0))) aNil)) [some (.tup xs), some (.tup [a, b]), none] S = .ok (nmD a) S := tru_b (call_ok (acons_ok (bin_ok rfl rfl rfl) rfl) rfl (Sn S a (hx1 a (by simp)))) rfl
          have hb := hx1 b (by simp)
          have c1 : tTru (lCall 1 gn [] (aCons (lBin gIx (lVar 1) (lC (.int 1))) aNil)) [some (.tup xs), some (.tup [a, b]), none] S = .ok (nmD b) S := tru_b (call_ok (acons_ok (bin_ok rfl rfl rfl) rfl) rfl (Sn S b hb)) rfl
          rw [show (!decide ((([a, b] : List D).length : Int) = 2)) = false from rfl] at hlen
          show ((nmD a && (nmD b || epD b)) = true → _) ∧ ((nmD a && (nmD b || epD b)) = false → _)
          cases ha : nmD a with
          | false =>
            rw [ha] at c0
            exact ⟨fun z => (nomatch z), fun _ => seq_rt (if_tt (or_ff (not_ok i1) (or_ff hlen (not_ok c0))) (ret_ok rfl))⟩
          | true =>
            rw [ha] at c0
            rw [Bool.true_and]
            have g1 := if_ff (l1 := lRet (lC (.bl false))) (or_ff (not_ok i1) (or_ff hlen (not_ok c0))) (show lNext [some (.tup xs), some (.tup [a, b]), none] S = .ok (.nx [some (.tup xs), some (.tup [a, b]), none]) S from rfl)
            have second : ∀ b : D, plainD b = true → (∀ v, nmD b = v → tTru (lCall 1 gn [] (aCons (lBin gIx (lVar 1) (lC (.int 1))) aNil)) [some (.tup xs), some (.tup [a, b]), none] S = .ok v S) → MP.tOr (MP.tNot (tTru (lIsi tabStrA (lBin gIx (lVar 1) (lC (.int 1)))))) (MP.tAnd (tTru (lBin gNe (lBin gIx (lVar 1) (lC (.int 1))) (lC (.str "")))) (MP.tNot (tTru (lCall 1 gn [] (aCons (lBin gIx (lVar 1) (lC (.int 1))) aNil))))) [some (.tup xs), some (.tup [a, b]), none] S = .ok (!(nmD b || epD b)) S := fun b hb hc => by
              cases b with
              | ref _ => cases hb
              | obj _ _ => cases hb
              | exn _ _ => cases hb
              | ftup _ => cases hb
              | str x =>
                refine or_ff (not_ok (b := true) (tru_b (isi_ok (bin_ok rfl rfl rfl) rfl) rfl)) ?_
                have he : tTru (lBin gNe (lBin gIx (lVar 1) (lC (.int 1))) (lC (.str ""))) [some (.tup xs), some (.tup [a, .str x]), none] S = .ok (!decide (x = Str.empty)) S := tru_b (bin_ok (bin_ok rfl rfl rfl) rfl ne_ss) rfl
                show _ = R.ok (!(nm x || decide (x = Str.empty))) S
                cases q : decide (x = Str.empty) with
                | true => rw [q] at he; rw [Bool.or_true]; exact and_ff he
                | false => rw [q] at he; rw [Bool.or_false]; exact and_tt he (not_ok (hc (nm x) rfl))
              | _ => exact or_tt (not_ok (b := false) (tru_b (isi_ok (bin_ok rfl rfl rfl) rfl) rfl))
            have g2 := second b hb fun v hv => by rw [← hv]; exact c1
            cases q : (nmD b || epD b) with
            | false => rw [q] at g2; exact ⟨fun z => (nomatch z), fun _ => seq_nx g1 (if_tt g2 (ret_ok rfl))⟩
            | true => rw [q] at g2; exact ⟨fun _ => ⟨_, seq_nx g1 (if_ff g2 rfl), rfl⟩, fun z => (nomatch z)⟩
      | _ => exact ⟨fun z => (nomatch z), fun _ => seq_rt (if_tt (or_tt (not_ok (nt _ (isi_ok rfl rfl)))) (ret_ok rfl))⟩) xs hin
    cases q : xs.all mbD with
    | false =>
      have hn : mbsD (.tup xs) = false := by show (xs.all mbD && _) = false; rw [q]; rfl
      rw [hn]
      exact body_rt (seq_nx (if_ff (not_ok hi) rfl) (seq_rt (for_ok (iter_ok rfl rfl) (F.2 q))))
    | true =>
      have hv : mbsD (.tup xs) = riseS (xs.map mnm) := by show (xs.all mbD && _) = _; rw [q, Bool.true_and]
      rw [hv]
      obtain ⟨ps, rfl, hn, en⟩ := mbs_of q
      rw [en, riseS_eq]
      rw [psD_len] at hl
      have g1 : lComp (lIter (lVar 0)) [1] (gtName 1) tYesL (lBin gIx (lVar 1) (lC (.int 0))) [some (.tup (psD ps)), none, none] S = .ok (.lst ((givs ps).map D.str)) S := by
        unfold givs
        rw [List.map_map]
        exact comp_okL (iter_ok rfl rfl) (by rw [psD_len]; omega) (comp_map (enc := pD) (f := fun p => .str p.1) trivial ps fun p hp => ⟨_, rfl, bin_ok rfl rfl rfl⟩)
      have gl : (givs ps).length = ps.length := by simp [givs]
      have og : ∀ y ∈ givs ps, PyData.strOk y = true := fun y hy => by
        obtain ⟨p, hp, rfl⟩ := List.mem_map.mp hy
        exact nm_ok (hn p hp)
      have hset : gSortSet S [.lst ((givs ps).map D.str)] = some (.lst ((srtS (givs ps)).map D.str)) := by
        unfold gSortSet
        dsimp only [vw]
        rw [strsD_map]
        dsimp only
        rw [if_pos (by rw [gl]; omega)]
      have e1 : gEq S (.lst ((givs ps).map D.str)) (.lst ((srtS (givs ps)).map D.str)) = some (.bl (decide (givs ps = srtS (givs ps)))) := eq_strs og fun y hy => og y (mem_nub.mp ((List.mergeSort_perm _ _).mem_iff.mp hy))
      exact body_rt (seq_nx (if_ff (not_ok hi) rfl) (seq_nx (for_ok (iter_ok rfl rfl) (F.1 q)) (seq_nx (set_ok g1) (ret_ok (bin_ok rfl (callb_ok (acons_ok rfl rfl) hset) e1)))))
  | _ =>
    have nt : ∀ d : D, lIsi tabTupA (lVar 0) [some d, none, none] S = .ok (.bl false) S → tTru (lIsi tabTupA (lVar 0)) [some d, none, none] S = .ok false S := fun d h => tru_b h rfl
    exact body_rt (seq_rt (if_tt (not_ok (nt _ (isi_ok rfl rfl))) (ret_ok rfl)))
theorem ok_lcircle (T : T01 K mg) : ∃ g, FnL P w K mg base 3 T.f__law_is_circle T.fd__law_is_circle ["_law_four"] g ∧ SLCircle g := by
  obtain ⟨gm, Fn__law_are_members, Sm⟩ := ok_lms (P := P) (w := w) (base := base) T
  obtain ⟨gp, Fn__law_are_pairs, Sp⟩ := ok_lps (P := P) (w := w) (base := base) T
  refine ⟨_, Fun.okL T.F__law_is_circle sc__law_is_circle fun cdv A outer s H E hr =>
(pssl_cons (psl_asg (pel_var (i := 0)) (pgl_tup (n := 4) rfl (pgsl_cons (pgl_name (i := 1) sc__law_is_circle.nd) (pgsl_cons (pgl_name (i := 2) sc__law_is_circle.nd) (pgsl_cons (pgl_name (i := 3) sc__law_is_circle.nd) (pgsl_cons (pgl_name (i := 4) sc__law_is_circle.nd) pgsl_nil))))))
  (pssl_cons (psl_if (PWL.pt (pwl_or (ptl_not (ptl_truth (pel_call Fn__law_are_members (hr.mono (by decide)) rfl T.mg__law_are_members T.F__law_are_members.kp T.b__law_are_members dfl_nil (pal_cons (pel_var (i := 1)) pal_nil)))) (pwl_or1 (PWL.pt (pwl_and (ptl_cmp opl_notN (pel_var (i := 2)) pel_non) (pwl_and1 (ptl_not (ptl_truth (pel_call Fn__law_are_pairs (hr.mono (by decide)) rfl T.mg__law_are_pairs T.F__law_are_pairs.kp T.b__law_are_pairs dfl_nil (pal_cons (pel_var (i := 2)) pal_nil)))))))))) (pssl_one (psl_ret pel_bl)) pssl_nil)
  (pssl_cons (psl_if (PWL.pt (pwl_and (ptl_cmp opl_notN (pel_var (i := 3)) pel_non) (pwl_and1 (PWL.pt (pwl_or (ptl_not (ptl_truth (pel_isi rfl T.n_isinstance (pel_var (i := 3)) (pe_bltn rfl T.n_tuple (v := .ty "tuple") (u := .type "tuple") (by decide +kernel) rfl) (.ty _) isi_tupleA))) (pwl_or1 (ptl_not (ptl_truth (pel_callB (cl_all rfl) rfl T.n_all (by decide +kernel) (pal_cons (pel_lc (own := [("_law_year", 5)]) rfl sc__law_is_circle.nd (pil_val (pel_var (i := 3))) (blkOk_by (N := N__law_is_circle) (sc := defScope s__law_is_circle) (by decide +kernel)) (fun _ _ _ _ _ => (pgl_name (i := 5) sc__law_is_circle.nd)) (fun _ _ _ _ _ => ptsl_nil) (fun _ _ _ _ _ => (pel_call Fn__law_are_pairs (hr.mono (by decide)) rfl T.mg__law_are_pairs T.F__law_are_pairs.kp T.b__law_are_pairs dfl_nil (pal_cons (pel_var (i := 5)) pal_nil)))) pal_nil)))))))))) (pssl_one (psl_ret pel_bl)) pssl_nil)
  (pssl_one (psl_ret (pel_and (pel_isi rfl T.n_isinstance (pel_var (i := 4)) (pe_bltn rfl T.n_int (v := .ty "int") (u := .type "int") (by decide +kernel) rfl) (.ty _) isi_intA) (pel_and (pel_not (pel_isi rfl T.n_isinstance (pel_var (i := 4)) (pe_bltn rfl T.n_bool (v := .ty "bool") (u := .type "bool") (by decide +kernel) rfl) (.ty _) isi_boolA)) (pel_one (pel_chain opl_le2 (opl_lt2 hr.units) pel_int (pel_var (i := 4)) (pel_op opl_pow pel_int pel_int)))))))))), ?_⟩
  intro S m b p g hm hb hfb hp hfp hg
  generalize hf : D.tup [m, b, p, g] = f
  have hasg : lAsg (gtTup 4 (gtCons (gtName 1) (gtCons (gtName 2) (gtCons (gtName 3) (gtCons (gtName 4) gtNil))))) (lVar 0) [some f, none, none, none, none, none] S = .ok (.nx [some f, some m, some b, some p, some g, none]) S := by
    rw [← hf]
    exact asg_ok rfl rfl
  have t1 : tTru (lCall 1 gm [] (aCons (lVar 1) aNil)) [some f, some m, some b, some p, some g, none] S = .ok (mbsD m) S := tru_b (call_ok (acons_ok rfl rfl) rfl (Sm S m hm)) rfl
  have t2 : tTru (lCall 1 gp [] (aCons (lVar 2) aNil)) [some f, some m, some b, some p, some g, none] S = .ok (prsD b) S := tru_b (call_ok (acons_ok rfl rfl) rfl (Sp S b hb hfb)) rfl
  have n1 : tTru (lBin gNotN (lVar 2) (lC .non)) [some f, some m, some b, some p, some g, none] S = .ok (!isN b) S := non_t rfl
  have n2 : tTru (lBin gNotN (lVar 3) (lC .non)) [some f, some m, some b, some p, some g, none] S = .ok (!isN p) S := non_t rfl
  have first : MP.tOr (MP.tNot (tTru (lCall 1 gm [] (aCons (lVar 1) aNil)))) (MP.tAnd (tTru (lBin gNotN (lVar 2) (lC .non))) (MP.tNot (tTru (lCall 1 gp [] (aCons (lVar 2) aNil))))) [some f, some m, some b, some p, some g, none] S = .ok (!(mbsD m && (isN b || prsD b))) S := by
    cases q1 : mbsD m with
    | false => rw [q1] at t1; exact or_tt (not_ok t1)
    | true =>
      rw [q1] at t1
      refine or_ff (not_ok t1) ?_
      cases q2 : isN b with
      | true => rw [q2] at n1; exact and_ff n1
      | false => rw [q2] at n1; exact and_tt n1 (not_ok t2)
  have yrs : MP.tOr (MP.tNot (tTru (lIsi tabTupA (lVar 3)))) (MP.tNot (tTru (lCallB gAll (aCons (lComp (lIter (lVar 3)) [5] (gtName 5) tYesL (lCall 1 gp [] (aCons (lVar 5) aNil))) aNil)))) [some f, some m, some b, some p, some g, none] S = .ok (!yrsD p) S := by
    obtain ⟨hpp, hpx⟩ := hp
    clear n2
    cases p with
    | ref _ => cases hpp
    | obj _ _ => cases hpp
    | exn _ _ => cases hpp
    | ftup _ => cases hpp
    | tup xs =>
      obtain ⟨hl, hi⟩ := hpx xs rfl
      have hfx := hfp xs rfl
      have hc : lComp (lIter (lVar 3)) [5] (gtName 5) tYesL (lCall 1 gp [] (aCons (lVar 5) aNil)) [some f, some m, some b, some (.tup xs), some g, none] S = .ok (.lst (xs.map fun d => D.bl (prsD d))) S := by
        have := comp_map (enc := fun d : D => d) (f := fun d => D.bl (prsD d)) (g := gtName 5) (te := lCall 1 gp [] (aCons (lVar 5) aNil)) (ρ0 := wipeE [some f, some m, some b, some (.tup xs), some g, none] [5]) (S := S) (chk := fun _ => True) trivial xs fun d hd => ⟨_, rfl, call_ok (acons_ok rfl rfl) rfl (Sp S d (hi d hd) (hfx d hd))⟩
        rw [List.map_id'] at this
        exact comp_okL (iter_ok rfl rfl) (show xs.length ≤ 100000 by omega) this
      exact or_ff (not_ok (b := true) (tru_b (isi_ok rfl rfl) rfl)) (not_ok (tru_b (callb_ok (acons_ok hc rfl) (all_ok prsD xs)) rfl))
    | _ => exact or_tt (not_ok (b := false) (tru_b (isi_ok rfl rfl) rfl))
  have second : MP.tAnd (tTru (lBin gNotN (lVar 3) (lC .non))) (MP.tOr (MP.tNot (tTru (lIsi tabTupA (lVar 3)))) (MP.tNot (tTru (lCallB gAll (aCons (lComp (lIter (lVar 3)) [5] (gtName 5) tYesL (lCall 1 gp [] (aCons (lVar 5) aNil))) aNil))))) [some f, some m, some b, some p, some g, none] S = .ok (!(isN p || yrsD p)) S := by
    cases q2 : isN p with
    | true => rw [q2] at n2; exact and_ff n2
    | false => rw [q2] at n2; exact and_tt n2 yrs
  unfold crD
  cases q1 : mbsD m && (isN b || prsD b) with
  | false => rw [q1] at first; exact body_rt (seq_nx hasg (seq_rt (if_tt first (ret_ok rfl))))
  | true =>
    rw [q1] at first
    cases q2 : isN p || yrsD p with
    | false => rw [q2] at second; exact body_rt (seq_nx hasg (seq_nx (if_ff first rfl) (seq_rt (if_tt second (ret_ok rfl)))))
    | true =>
      rw [q2] at second
      show _ = R.ok (D.bl (gapD g)) S
      refine body_rt (seq_nx hasg (seq_nx (if_ff first rfl) (seq_nx (if_ff second rfl) (ret_ok ?_))))
      have hpow : lBin gPow (lC (.int 10)) (lC (.int 30)) [some f, some m, some b, some p, some g, none] S = .ok (.int (10 ^ 30)) S := bin_ok rfl rfl (pow_ii ⟨by decide, by decide, by decide⟩)
      clear n1 n2 first second yrs t1 t2 hasg
      subst hf
      have go : ∀ (f g : D), plainD g = true → lBin gPow (lC (.int 10)) (lC (.int 30)) [some f, some m, some b, some p, some g, none] S = .ok (.int (10 ^ 30)) S → lAndV (lIsi tabIntA (lVar 4)) (lAndV (lNotV (lIsi tabBlA (lVar 4))) (lChain gLe2 gLt2 (lC (.int 0)) (lVar 4) (lBin gPow (lC (.int 10)) (lC (.int 30))))) [some f, some m, some b, some p, some g, none] S = .ok (.bl (gapD g)) S := fun f g hg hpow => by
        cases g with
        | ref _ => cases hg
        | obj _ _ => cases hg
        | exn _ _ => cases hg
        | ftup _ => cases hg
        | bl x => exact andv_tt (d := .bl true) (isi_ok rfl rfl) rfl (andv_ff (d := .bl false) rfl rfl)
        | int i =>
          refine andv_tt (d := .bl true) (isi_ok rfl rfl) rfl (andv_tt (d := .bl true) rfl rfl ?_)
          show _ = R.ok (D.bl (decide (0 ≤ i ∧ i < 10 ^ 30))) S
          by_cases h0 : 0 ≤ i
          · have := chain_tt (g := gLe2) (g' := gLt2) (la := lC (.int 0)) (lb := lVar 4) (lc := lBin gPow (lC (.int 10)) (lC (.int 30))) (ρ := [some f, some m, some b, some p, some (.int i), none]) (S := S) (S1 := S) (S2 := S) (S3 := S) (x := .int 0) (y := .int i) (z := .int (10 ^ 30)) (d := .bl (decide (i < 10 ^ 30))) rfl rfl (show some (D.bl (decide ((0 : Int) ≤ i))) = _ by rw [decide_eq_true h0]) hpow rfl
            rw [this]
            congr 2
            rw [decide_eq_decide]
            exact ⟨fun z => ⟨h0, z⟩, fun z => z.2⟩
          · have := chain_ff (g := gLe2) (g' := gLt2) (la := lC (.int 0)) (lb := lVar 4) (lc := lBin gPow (lC (.int 10)) (lC (.int 30))) (ρ := [some f, some m, some b, some p, some (.int i), none]) (S := S) (S1 := S) (S2 := S) (x := .int 0) (y := .int i) rfl rfl (show some (D.bl (decide ((0 : Int) ≤ i))) = _ by rw [decide_eq_false h0])
            rw [this, decide_eq_false (fun z => h0 z.1)]
        | _ => exact andv_ff (d := .bl false) (isi_ok rfl rfl) rfl
      exact go _ g hg hpow
end
end K01

namespace K01
open PySem PySem.Spec PyProof.Rows L2 MP
/-! ### the draws -/

def P1 : Int := 2305843009213693951
def P2 : Int := 2305843009213693921
def P3 : Int := 2305843009213693907
def SBlend (g : F) : Prop := ∀ (S : Sto) (a t : Int), 0 ≤ t → t < 10 ^ 30 → ∃ v, g [.int a, .int t] S = .ok (.int v) S ∧ 0 ≤ v ∧ v < 10 ^ 30
/-- the pot at j, its script at i -/
def PotAt (j i : Nat) (n : Int) (S : Sto) : Prop := ∃ (own : List Int) (dig mix cnt : Int), i ≠ j ∧ S[j]? = some (.lst [.ref i, .int dig, .int mix, .int cnt]) ∧ S[i]? = some (.lst (own.map D.int)) ∧ own.length ≤ 63 ∧ 0 ≤ dig ∧ 0 ≤ cnt ∧ cnt ≤ n
def Keep2 (j i : Nat) (S S' : Sto) : Prop := S.length ≤ S'.length ∧ ∀ k, k ≠ j → k ≠ i → k < S.length → S'[k]? = S[k]?
theorem Keep2.refl {j i : Nat} {S : Sto} : Keep2 j i S S := ⟨Nat.le_refl _, fun _ _ _ _ => rfl⟩
theorem Keep2.trans {j i : Nat} {S S1 S2 : Sto} (h1 : Keep2 j i S S1) (h2 : Keep2 j i S1 S2) : Keep2 j i S S2 := ⟨Nat.le_trans h1.1 h2.1, fun k hk hi hl => (h2.2 k hk hi (Nat.lt_of_lt_of_le hl h1.1)).trans (h1.2 k hk hi hl)⟩
theorem Keep2.setj {j i : Nat} {S : Sto} {o : O} : Keep2 j i S (S.set j o) := ⟨by simp, fun k hk _ _ => List.getElem?_set_ne (Ne.symm hk)⟩
theorem Keep2.seti {j i : Nat} {S : Sto} {o : O} : Keep2 j i S (S.set i o) := ⟨by simp, fun k _ hk _ => List.getElem?_set_ne (Ne.symm hk)⟩
theorem Keep2.push {j i : Nat} {S : Sto} {o : O} : Keep2 j i S (S ++ [o]) := ⟨by simp, fun k _ _ hl => List.getElem?_append_left hl⟩
theorem Keep2.get {j i k : Nat} {S S' : Sto} {o : O} (h : Keep2 j i S S') (hk : S[k]? = some o) (hj : k ≠ j) (hi : k ≠ i) : S'[k]? = some o := by
  rw [h.2 k hj hi (List.getElem?_eq_some_iff.mp hk).1]; exact hk
theorem Keep2.set_new {j i k : Nat} {S S1 : Sto} {o : O} (h : Keep2 j i S S1) (hk : S.length ≤ k) : Keep2 j i S (S1.set k o) := ⟨by rw [List.length_set]; exact h.1, fun m hm hi hl => by
  rw [List.getElem?_set_ne (by omega)]
  exact h.2 m hm hi hl⟩
theorem PotAt.mono {j i : Nat} {n m : Int} {S : Sto} (h : PotAt j i n S) (hm : n ≤ m) : PotAt j i m S := by
  obtain ⟨a, b, c, e, h1, h2, h3, h4, h5, h6, h7⟩ := h
  exact ⟨a, b, c, e, h1, h2, h3, h4, h5, h6, by omega⟩
theorem PotAt.lt {j i : Nat} {n : Int} {S : Sto} (h : PotAt j i n S) : j < S.length ∧ i < S.length := by
  obtain ⟨a, b, c, e, h1, h2, h3, _⟩ := h
  exact ⟨(List.getElem?_eq_some_iff.mp h2).1, (List.getElem?_eq_some_iff.mp h3).1⟩
theorem PotAt.push {j i : Nat} {n : Int} {S : Sto} {o : O} (h : PotAt j i n S) : PotAt j i n (S ++ [o]) := by
  have hl := h.lt
  obtain ⟨a, b, c, e, h1, h2, h3, h4⟩ := h
  exact ⟨a, b, c, e, h1, by rw [List.getElem?_append_left hl.1]; exact h2, by rw [List.getElem?_append_left hl.2]; exact h3, h4⟩
theorem PotAt.set {j i k : Nat} {n : Int} {S : Sto} {o : O} (h : PotAt j i n S) (hj : k ≠ j) (hi : k ≠ i) : PotAt j i n (S.set k o) := by
  obtain ⟨a, b, c, e, h1, h2, h3, h4⟩ := h
  exact ⟨a, b, c, e, h1, by rw [List.getElem?_set_ne hj]; exact h2, by rw [List.getElem?_set_ne hi]; exact h3, h4⟩
def SPot (g : F) : Prop := ∀ (S : Sto) (ns : List Int), ns.length ≤ 63 → ∃ j i S', g [.lst (ns.map D.int)] S = .ok (.ref j) S' ∧ PotAt j i 0 S'
def SDraw (g : F) : Prop := ∀ (n : Int) (S : Sto) (j i : Nat) (wd : Int), PotAt j i n S → n < 10 ^ 29 → 0 < wd → wd < 10 ^ 200 → ∃ v S', g [.ref j, .int wd] S = .ok (.int v) S' ∧ 0 ≤ v ∧ v < wd ∧ PotAt j i (n + 1) S' ∧ Keep2 j i S S'
def SPick (g : F) : Prop := ∀ (n : Int) (S : Sto) (j i : Nat) (d : D) (l : Int) (Q : D → Prop), PotAt j i n S → n < 10 ^ 29 → gLen S [d] = some (.int l) → 0 < l → l < 10 ^ 6 → (∀ S' v, Keep2 j i S S' → 0 ≤ v → v < l → ∃ y, gIx S' d (.int v) = some y ∧ Q y) → ∃ y S', g [.ref j, d] S = .ok y S' ∧ Q y ∧ PotAt j i (n + 1) S' ∧ Keep2 j i S S'



theorem lx0 {j : Nat} {xs : List D} {S : Sto} {k : Int} {d : D} {ρ : Ev} (h : S[j]? = some (.lst xs)) (hd : atI xs k = some d) (hv : lVar 0 ρ S = .ok (.ref j) S) : lBin gIx (lVar 0) (lC (.int k)) ρ S = .ok d S := bin_ok hv rfl (ix_ref h hd)
theorem mulx_ii {S : Sto} {i j : Int} (h : Sm i) (h' : Sm j) : gMulX S (.int i) (.int j) = some (.int (i * j)) := by
  unfold gMulX
  rw [mul_ii h h']
  rfl
section
variable {P : Program} {w : World} {K : PySem.W.Frag} {mg : Str → Option Value} {base : Heap}
theorem ok_blend (T : T01 K mg) : ∃ g, FnL P w K mg base 1 T.f__law_blend T.fd__law_blend ["_law_number", "_law_turn"] g ∧ SBlend g := by
  refine ⟨_, Fun.okL T.F__law_blend sc__law_blend fun cdv A outer s H E hr =>
(pssl_cons (psl_set (i := 2) sc__law_blend.nd (pel_op opl_add2 (pel_op opl_add2 (pel_op opl_add2 (pel_op opl_mod (pel_var (i := 0)) pel_int) (pel_op opl_mulX (pel_op opl_mulX pel_int (pel_var (i := 1))) (pel_var (i := 1)))) (pel_op opl_mulX pel_int (pel_var (i := 1)))) pel_int))
  (pssl_cons (psl_set (i := 3) sc__law_blend.nd (pel_op opl_mod (pel_op opl_mulX (pel_var (i := 2)) pel_int) pel_int))
  (pssl_one (psl_ret (pel_op opl_mod (pel_op opl_add2 (pel_op opl_mulX (pel_var (i := 3)) (pel_op opl_add2 (pel_op opl_mod (pel_var (i := 3)) pel_int) (pel_op opl_mulX pel_int (pel_var (i := 1))))) (pel_op opl_div (pel_var (i := 3)) pel_int)) pel_int))))), ?_⟩
  intro S a t t0 t1
  have bb : (0 : Int) < 10 ^ 30 ∧ (10 : Int) ^ 30 < 10 ^ 100 ∧ (104729 : Int) * 10 ^ 30 < 10 ^ 100 ∧ (17 : Int) * 10 ^ 30 < 10 ^ 90 ∧ (99991 : Int) * 10 ^ 30 + 1000003 < 10 ^ 100 ∧ (104729 : Int) * 10 ^ 30 * 10 ^ 30 + 10 ^ 30 + 10 ^ 90 + 10 ^ 90 + 5 < 10 ^ 100 ∧ (2305843009213693951 : Int) < 10 ^ 30 ∧ (2305843009213693921 : Int) < 10 ^ 30 ∧ (2305843009213693907 : Int) < 10 ^ 30 := by decide +kernel
  obtain ⟨bb0, bb1, bb2, bb3, bb4, bb5, bb6, bb7, bb8⟩ := bb
  have st : Sm t := sml t0 (by omega)
  have k1 : (104729 : Int) * t ≤ 104729 * 10 ^ 30 := by omega
  have k2 : (104729 : Int) * t * t ≤ 104729 * 10 ^ 30 * 10 ^ 30 := Int.le_trans (Int.mul_le_mul_of_nonneg_right k1 t0) (Int.mul_le_mul_of_nonneg_left (by omega) (by decide +kernel))
  have k3 : (0 : Int) ≤ 104729 * t * t := Int.mul_nonneg (by omega) t0
  have r0 := Int.emod_nonneg a (b := 2305843009213693951) (by decide)
  have r1 := Int.emod_lt_of_pos a (b := 2305843009213693951) (by decide)
  have g1 := set_ok (i := 2) (S := S) (ρ := [some (.int a), some (.int t), none, none]) (bin_ok (bin_ok (bin_ok (bin_ok (la := lVar 0) (lb := lC (.int 2305843009213693951)) rfl rfl (mod_ii (by decide))) (bin_ok (bin_ok (la := lC (.int 104729)) (lb := lVar 1) rfl rfl (mulx_ii (sml (by decide) (by decide +kernel)) st)) (lb := lVar 1) rfl (mulx_ii (sml (by omega) (by omega)) st)) add2_ii) (bin_ok (la := lC (.int 17)) (lb := lVar 1) rfl rfl (mulx_ii (sml (by decide) (by decide +kernel)) st)) add2_ii) (lb := lC (.int 5)) rfl add2_ii)
  have hs0 : 0 ≤ a % 2305843009213693951 + 104729 * t * t + 17 * t + 5 := by omega
  have hs1 : a % 2305843009213693951 + 104729 * t * t + 17 * t + 5 < 10 ^ 100 := by omega
  generalize a % 2305843009213693951 + 104729 * t * t + 17 * t + 5 = sd at g1 hs0 hs1
  have g2 := set_ok (i := 3) (S := S) (ρ := [some (.int a), some (.int t), some (.int sd), none]) (bin_ok (bin_ok (la := lVar 2) (lb := lC (.int 48271)) rfl rfl (mulx_ii (sml hs0 hs1) (sml (by decide) (by decide +kernel)))) (lb := lC (.int 2305843009213693921)) rfl (mod_ii (by decide)))
  have m0 := Int.emod_nonneg (sd * 48271) (b := 2305843009213693921) (by decide)
  have m1 := Int.emod_lt_of_pos (sd * 48271) (b := 2305843009213693921) (by decide)
  generalize sd * 48271 % 2305843009213693921 = mx at g2 m0 m1
  have q0 := Int.emod_nonneg mx (b := 1000003) (by decide)
  have q1 := Int.emod_lt_of_pos mx (b := 1000003) (by decide)
  have g3 := ret_ok (S := S) (ρ := [some (.int a), some (.int t), some (.int sd), some (.int mx)]) (bin_ok (bin_ok (bin_ok (la := lVar 3) rfl (bin_ok (bin_ok (la := lVar 3) (lb := lC (.int 1000003)) rfl rfl (mod_ii (by decide))) (bin_ok (la := lC (.int 99991)) (lb := lVar 1) rfl rfl (mulx_ii (sml (by decide) (by decide +kernel)) st)) add2_ii) (mulx_ii (sml m0 (by omega)) (sml (by omega) (by omega)))) (bin_ok (la := lVar 3) (lb := lC (.int 11)) rfl rfl (div_ii (by decide) (sml (by decide) (by decide +kernel)))) add2_ii) (lb := lC (.int 2305843009213693907)) rfl (mod_ii (by decide)))
  have v0 := Int.emod_nonneg (mx * (mx % 1000003 + 99991 * t) + mx / 11) (b := 2305843009213693907) (by decide)
  have v1 := Int.emod_lt_of_pos (mx * (mx % 1000003 + 99991 * t) + mx / 11) (b := 2305843009213693907) (by decide)
  exact ⟨_, body_rt (seq_nx g1 (seq_nx g2 g3)), v0, by omega⟩
theorem ok_pot (T : T01 K mg) : ∃ g, FnL P w K mg base 1 T.f__law_pot T.fd__law_pot ["_law_script"] g ∧ SPot g := by
  refine ⟨_, Fun.okL T.F__law_pot sc__law_pot fun cdv A outer s H E hr =>
(pssl_one (psl_ret (pel_lstN (pal_cons (pel_listN rfl T.n_list (by decide +kernel) (pal_cons (pel_var (i := 0)) pal_nil)) (pal_cons pel_int (pal_cons pel_int (pal_cons pel_int pal_nil))))))), ?_⟩
  intro S ns hn
  refine ⟨_, S.length, _, body_rt (ret_ok (lstN_ok (acons_ok (d := .ref S.length) (S1 := S ++ [.lst (ns.map D.int)]) rfl (acons_ok rfl (acons_ok rfl (acons_ok rfl rfl)))) (by simp))), ?_⟩
  refine ⟨ns, 0, 3, 0, by simp, last_at, ?_, hn, by omega, by omega, by omega⟩
  rw [List.getElem?_append_left (by simp)]
  exact last_at
theorem ok_draw (T : T01 K mg) : ∃ g, FnL P w K mg base 2 T.f__law_draw T.fd__law_draw ["_law_pot_here", "_law_size"] g ∧ SDraw g := by
  obtain ⟨gb, Fn__law_blend, Sb⟩ := ok_blend (P := P) (w := w) (base := base) T
  refine ⟨_, Fun.okL T.F__law_draw sc__law_draw fun cdv A outer s H E hr =>
(pssl_cons (psl_sub psetl_seq (pel_var (i := 0)) pel_int (pel_op opl_add2 (pel_ix ixl_seq (pel_var (i := 0)) pel_int) pel_int))
  (pssl_cons (psl_if (PWL.pt (pwl_and (ptl_cmp (opl_eq hr.units) (pel_ix ixl_seq (pel_var (i := 0)) pel_int) pel_int) (pwl_and1 (ptl_cmp (opl_ne hr.units) (pel_ix ixl_seq (pel_var (i := 0)) pel_int) (pel_lst pal_nil))))) (pssl_cons (psl_set (i := 2) sc__law_draw.nd (pel_popAt (pel_ix ixl_seq (pel_var (i := 0)) pel_int) pel_int))
  (pssl_cons (psl_sub psetl_seq (pel_var (i := 0)) pel_int (pel_call Fn__law_blend (hr.mono (by decide)) rfl T.mg__law_blend T.F__law_blend.kp T.b__law_blend dfl_nil (pal_cons (pel_op opl_add2 (pel_ix ixl_seq (pel_var (i := 0)) pel_int) (pel_var (i := 2))) (pal_cons (pel_callB (cl_len) rfl T.n_len (by decide +kernel) (pal_cons (pel_ix ixl_seq (pel_var (i := 0)) pel_int) pal_nil)) pal_nil))))
  (pssl_one (psl_if (ptl_cmp opl_geI (pel_callB (cl_abs) rfl T.n_abs (by decide +kernel) (pal_cons (pel_var (i := 2)) pal_nil)) (pel_op opl_pow pel_int pel_int)) (pssl_one (psl_sub psetl_seq (pel_var (i := 0)) pel_int (pel_callB (cl_abs) rfl T.n_abs (by decide +kernel) (pal_cons (pel_var (i := 2)) pal_nil)))) pssl_nil)))) pssl_nil)
  (pssl_cons (psl_if (ptl_cmp opl_gt2 (pel_ix ixl_seq (pel_var (i := 0)) pel_int) pel_int) (pssl_cons (psl_set (i := 3) sc__law_draw.nd (pel_op opl_mod (pel_ix ixl_seq (pel_var (i := 0)) pel_int) (pel_var (i := 1))))
  (pssl_cons (psl_sub psetl_seq (pel_var (i := 0)) pel_int (pel_op opl_div (pel_ix ixl_seq (pel_var (i := 0)) pel_int) (pel_var (i := 1))))
  (pssl_one (psl_ret (pel_var (i := 3)))))) pssl_nil)
  (pssl_one (psl_ret (pel_op opl_mod (pel_op opl_div (pel_call Fn__law_blend (hr.mono (by decide)) rfl T.mg__law_blend T.F__law_blend.kp T.b__law_blend dfl_nil (pal_cons (pel_ix ixl_seq (pel_var (i := 0)) pel_int) (pal_cons (pel_ix ixl_seq (pel_var (i := 0)) pel_int) pal_nil))) pel_int) (pel_var (i := 1)))))))), ?_⟩
  intro n S j i wd hp hn w0 w1
  obtain ⟨own, dig, mix, cnt, hij, hj, hi, hl, d0, c0, c1⟩ := hp
  have smw : Sm wd := Sm.of (by omega) w1 (by decide +kernel)
  have b29 : (10 : Int) ^ 29 < 10 ^ 30 := by decide +kernel
  have b1000 : (1000 : Int) < 10 ^ 30 := by decide +kernel
  -- one more draw
  have g1 : ∀ x y, lStS stSeq (lVar 0) (lC (.int 3)) (lBin gAdd2 (lBin gIx (lVar 0) (lC (.int 3))) (lC (.int 1))) [some (.ref j), some (.int wd), x, y] S = .ok (.nx [some (.ref j), some (.int wd), x, y]) (S.set j (.lst [.ref i, .int dig, .int mix, .int (cnt + 1)])) := fun x y => stS_ok (bin_ok (lx0 hj rfl rfl) rfl add2_ii) rfl rfl (sub_ok (n := 3) hj rfl)
  have hj1 := set_self (o' := .lst [.ref i, .int dig, .int mix, .int (cnt + 1)]) hj
  have hi1 : (S.set j (.lst [.ref i, .int dig, .int mix, .int (cnt + 1)]))[i]? = some (.lst (own.map D.int)) := by rw [List.getElem?_set_ne (Ne.symm hij)]; exact hi
  have k1 : Keep2 j i S (S.set j (.lst [.ref i, .int dig, .int mix, .int (cnt + 1)])) := .setj
  generalize S.set j (.lst [.ref i, .int dig, .int mix, .int (cnt + 1)]) = S1 at g1 hj1 hi1 k1
  -- a cell taken
  have key : ∃ (own' : List Int) (dig' mix' : Int) (x : Option D) (S2 : Sto), own'.length ≤ 63 ∧ 0 ≤ dig' ∧ S2[j]? = some (.lst [.ref i, .int dig', .int mix', .int (cnt + 1)]) ∧ S2[i]? = some (.lst (own'.map D.int)) ∧ Keep2 j i S1 S2 ∧
      (lIfS (MP.tAnd (tTru (lBin gEq (lBin gIx (lVar 0) (lC (.int 1))) (lC (.int 0)))) (tTru (lBin gNe (lBin gIx (lVar 0) (lC (.int 0))) (lLst aNil)))) (lSeq (lSet 2 (lBM "list" stPopAt (lBin gIx (lVar 0) (lC (.int 0))) (aCons (lC (.int 0)) aNil)))
        (lSeq (lStS stSeq (lVar 0) (lC (.int 2)) (lCall 2 gb [] (aCons (lBin gAdd2 (lBin gIx (lVar 0) (lC (.int 2))) (lVar 2)) (aCons (lCallB gLen (aCons (lBin gIx (lVar 0) (lC (.int 0))) aNil)) aNil))))
          (lIfS (tTru (lBin gGeI (lCallB gAbs (aCons (lVar 2) aNil)) (lBin gPow (lC (.int 10)) (lC (.int 18))))) (lStS stSeq (lVar 0) (lC (.int 1)) (lCallB gAbs (aCons (lVar 2) aNil))) lNext))) lNext [some (.ref j), some (.int wd), none, none] S1 = .ok (.nx [some (.ref j), some (.int wd), x, none]) S2) := by
    by_cases hd : dig = 0
    · have t1 : ∀ x, tTru (lBin gEq (lBin gIx (lVar 0) (lC (.int 1))) (lC (.int 0))) [some (.ref j), some (.int wd), x, none] S1 = .ok true S1 := fun x => tru_b (bin_ok (lx0 hj1 rfl rfl) rfl eq_ii) (decide_eq_true hd)
      have t2 : tTru (lBin gNe (lBin gIx (lVar 0) (lC (.int 0))) (lLst aNil)) [some (.ref j), some (.int wd), none, none] S1 = .ok (!own.isEmpty) S1 := tru_b (bin_ok (lx0 hj1 rfl rfl) (lst_ok rfl (by simp)) (ne_nil hi1)) rfl
      cases own with
      | nil => exact ⟨[], dig, mix, none, S1, by simp, d0, hj1, hi1, .refl, if_ff (and_tt (t1 _) t2) rfl⟩
      | cons z own =>
        have hil : i < S1.length := (List.getElem?_eq_some_iff.mp hi1).1
        simp only [List.length_cons] at hl
        -- the cell
        have p1 : lSet 2 (lBM "list" stPopAt (lBin gIx (lVar 0) (lC (.int 0))) (aCons (lC (.int 0)) aNil)) [some (.ref j), some (.int wd), none, none] S1 = .ok (.nx [some (.ref j), some (.int wd), some (.int z), none]) (S1.set i (.lst (own.map D.int))) :=
          set_ok (bm_ok (lx0 hj1 rfl rfl) (ty_lst hi1) (acons_ok rfl rfl) (pop0_ok hi1))
        have hj2 : (S1.set i (.lst (own.map D.int)))[j]? = some (.lst [.ref i, .int dig, .int mix, .int (cnt + 1)]) := by rw [List.getElem?_set_ne hij]; exact hj1
        have hi2 := set_self (o' := .lst (own.map D.int)) hi1
        have k2 : Keep2 j i S1 (S1.set i (.lst (own.map D.int))) := .seti
        generalize S1.set i (.lst (own.map D.int)) = S2 at p1 hj2 hi2 k2
        obtain ⟨v, eb, v0, v1⟩ := Sb S2 (mix + z) (own.length : Int) (by omega) (by omega)
        have hlen : gLen S2 [.ref i] = some (.int (own.length : Int)) := by
          have e : vw S2 (.ref i) = .lst (own.map D.int) := by unfold vw; dsimp only; rw [hi2]
          unfold gLen; dsimp only; rw [e]; simp
        have p2 : lStS stSeq (lVar 0) (lC (.int 2)) (lCall 2 gb [] (aCons (lBin gAdd2 (lBin gIx (lVar 0) (lC (.int 2))) (lVar 2)) (aCons (lCallB gLen (aCons (lBin gIx (lVar 0) (lC (.int 0))) aNil)) aNil))) [some (.ref j), some (.int wd), some (.int z), none] S2 = .ok (.nx [some (.ref j), some (.int wd), some (.int z), none]) (S2.set j (.lst [.ref i, .int dig, .int v, .int (cnt + 1)])) :=
          stS_ok (call_ok (acons_ok (bin_ok (lx0 hj2 rfl rfl) rfl add2_ii) (acons_ok (callb_ok (acons_ok (lx0 hj2 rfl rfl) rfl) hlen) rfl)) rfl eb) rfl rfl (sub_ok (n := 2) hj2 rfl)
        have hj3 := set_self (o' := .lst [.ref i, .int dig, .int v, .int (cnt + 1)]) hj2
        have hi3 : (S2.set j (.lst [.ref i, .int dig, .int v, .int (cnt + 1)]))[i]? = some (.lst (own.map D.int)) := by rw [List.getElem?_set_ne (Ne.symm hij)]; exact hi2
        have k3 : Keep2 j i S2 (S2.set j (.lst [.ref i, .int dig, .int v, .int (cnt + 1)])) := .setj
        generalize S2.set j (.lst [.ref i, .int dig, .int v, .int (cnt + 1)]) = S3 at p2 hj3 hi3 k3
        have habs : lCallB gAbs (aCons (lVar 2) aNil) [some (.ref j), some (.int wd), some (.int z), none] S3 = .ok (.int (if z < 0 then -z else z)) S3 := callb_ok (acons_ok rfl rfl) rfl
        by_cases hz : (10 : Int) ^ (18 : Int).toNat ≤ (if z < 0 then -z else z)
        · have p3 := stS_ok (lo := lVar 0) (li := lC (.int 1)) habs rfl rfl (sub_ok (n := 1) (d := .int (if z < 0 then -z else z)) hj3 rfl)
          have hj4 := set_self (o' := .lst [.ref i, .int (if z < 0 then -z else z), .int v, .int (cnt + 1)]) hj3
          have hi4 : (S3.set j (.lst [.ref i, .int (if z < 0 then -z else z), .int v, .int (cnt + 1)]))[i]? = some (.lst (own.map D.int)) := by rw [List.getElem?_set_ne (Ne.symm hij)]; exact hi3
          refine ⟨own, (if z < 0 then -z else z), v, some (.int z), _, by omega, by split <;> omega, hj4, hi4, (k2.trans k3).trans .setj, if_tt (and_tt (t1 _) t2) (seq_nx p1 (seq_nx p2 (if_tt (tru_b (bin_ok habs (bin_ok rfl rfl (pow_ii ⟨by decide, by decide, by decide⟩)) rfl) (decide_eq_true hz)) p3)))⟩
        · exact ⟨own, dig, v, some (.int z), _, by omega, d0, hj3, hi3, k2.trans k3, if_tt (and_tt (t1 _) t2) (seq_nx p1 (seq_nx p2 (if_ff (tru_b (bin_ok habs (bin_ok rfl rfl (pow_ii ⟨by decide, by decide, by decide⟩)) rfl) (decide_eq_false hz)) rfl)))⟩
    · exact ⟨own, dig, mix, none, S1, hl, d0, hj1, hi1, .refl, if_ff (and_ff (tru_b (bin_ok (lx0 hj1 rfl rfl) rfl eq_ii) (decide_eq_false hd))) rfl⟩
  obtain ⟨own', dig', mix', x, S2, hl', d0', hj2, hi2, k2, g2⟩ := key
  by_cases hd : 0 < dig'
  · have g3 := set_ok (i := 3) (ρ := [some (.ref j), some (.int wd), x, none]) (bin_ok (lx0 (k := 1) hj2 rfl rfl) (lb := lVar 1) rfl (mod_ii (i := dig') w0))
    have g4 := stS_ok (ρ := [some (.ref j), some (.int wd), x, some (.int (dig' % wd))]) (lo := lVar 0) (li := lC (.int 1)) (bin_ok (lx0 (k := 1) hj2 rfl rfl) (lb := lVar 1) rfl (div_ii (i := dig') w0 smw)) rfl rfl (sub_ok (n := 1) (d := .int (dig' / wd)) hj2 rfl)
    refine ⟨dig' % wd, _, body_rt (seq_nx (g1 none none) (seq_nx g2 (seq_rt (if_tt (tru_b (bin_ok (lx0 hj2 rfl rfl) rfl rfl) (decide_eq_true hd)) (seq_nx g3 (seq_nx g4 (ret_ok rfl))))))), Int.emod_nonneg _ (Int.ne_of_gt w0), Int.emod_lt_of_pos _ w0, ?_, (k1.trans k2).trans .setj⟩
    exact ⟨own', dig' / wd, mix', cnt + 1, hij, set_self hj2, by rw [List.getElem?_set_ne (Ne.symm hij)]; exact hi2, hl', Int.ediv_nonneg (by omega) (by omega), by omega, by omega⟩
  · obtain ⟨v, eb, v0, v1⟩ := Sb S2 mix' (cnt + 1) (by omega) (by omega)
    refine ⟨v / 7 % wd, S2, body_rt (seq_nx (g1 none none) (seq_nx g2 (seq_nx (if_ff (tru_b (bin_ok (lx0 hj2 rfl rfl) rfl rfl) (decide_eq_false hd)) rfl) (ret_ok (bin_ok (bin_ok (call_ok (acons_ok (lx0 hj2 rfl rfl) (acons_ok (lx0 hj2 rfl rfl) rfl)) rfl eb) rfl (div_ii (by decide) (sml (by decide) (by decide +kernel)))) rfl (mod_ii w0)))))), Int.emod_nonneg _ (Int.ne_of_gt w0), Int.emod_lt_of_pos _ w0, ?_, k1.trans k2⟩
    exact ⟨own', dig', mix', cnt + 1, hij, hj2, hi2, hl', d0', by omega, by omega⟩
theorem ok_pick (T : T01 K mg) : ∃ g, FnL P w K mg base 3 T.f__law_pick T.fd__law_pick ["_law_pot_here", "_law_some"] g ∧ SPick g := by
  obtain ⟨gd, Fn__law_draw, Sd⟩ := ok_draw (P := P) (w := w) (base := base) T
  refine ⟨_, Fun.okL T.F__law_pick sc__law_pick fun cdv A outer s H E hr =>
(pssl_one (psl_ret (pel_ix ixl_seq (pel_var (i := 1)) (pel_call Fn__law_draw (hr.mono (by decide)) rfl T.mg__law_draw T.F__law_draw.kp T.b__law_draw dfl_nil (pal_cons (pel_var (i := 0)) (pal_cons (pel_callB (cl_len) rfl T.n_len (by decide +kernel) (pal_cons (pel_var (i := 1)) pal_nil)) pal_nil)))))), ?_⟩
  intro n S j i d l Q hp hn hl l0 l1 hQ
  have b2 : (10 : Int) ^ 6 < 10 ^ 200 := by decide +kernel
  obtain ⟨v, S', e, v0, v1, hp', hk⟩ := Sd n S j i l hp hn l0 (by omega)
  obtain ⟨y, hy, q⟩ := hQ S' v hk v0 v1
  exact ⟨y, S', body_rt (ret_ok (bin_ok rfl (call_ok (acons_ok rfl (acons_ok (callb_ok (acons_ok rfl rfl) hl) rfl)) rfl e) hy)), q, hp', hk⟩
end
end K01

namespace K01
open PySem PySem.Spec PyProof.Rows L2 MP TL
open K59 (Pr nm givs taks slt isL lets nm_ok sle sorted_strs slt_tri)
open K06 (riP Cd pair_rise cd_of cd_repr)
/-! ### texts of bounded length -/
def Tx (m : Nat) (x : Str) : Prop := x.length ≤ m ∧ Cd x
theorem for_invB {chk : Sto → Prop} {g : GT} {lb : LS} {ρ0 : Ev} {N : Nat} {I : Nat → Sto → Prop} (hc : ∀ S, chk S) : ∀ (items : List D) (k : Nat) (S : Sto), k + items.length = N → I k S → (∀ d ∈ items, ∀ k S, k < N → I k S → ∃ ρ1 ρ' S', g d ρ0 = some ρ1 ∧ lb ρ1 S = .ok (.nx ρ') S' ∧ wk ρ0 ρ' = ρ0 ∧ I (k + 1) S') →
    ∃ S', forG ρ0 chk g lb items ρ0 S = .ok (.nx ρ0) S' ∧ I N S'
  | [], k, S, hn, hI, _ => ⟨S, for_end (hc S), by rw [← hn]; exact hI⟩
  | d :: items, k, S, hn, hI, h => by
    simp only [List.length_cons] at hn
    obtain ⟨ρ1, ρ', S1, h1, h2, h3, h4⟩ := h d (by simp) k S (by omega) hI
    obtain ⟨S2, h5, h6⟩ := for_invB hc items (k + 1) S1 (by omega) h4 fun d hd => h d (by simp [hd])
    refine ⟨S2, ?_, h6⟩
    refine for_go (hc S) h1 h2 ?_
    rw [h3]
    exact h5
theorem tup_ref {S : Sto} {i : Nat} {xs : List D} (h : S[i]? = some (.lst xs)) : gTuple S [.ref i] = some (.tup xs) := by
  unfold gTuple
  dsimp only
  rw [vw_ref h]
/-- over items, the ones behind told -/
theorem for_pre {chk : Sto → Prop} {g : GT} {lb : LS} {ρ0 : Ev} {I : List D → Sto → Prop} {all : List D} (hc : ∀ S, chk S) : ∀ (items done : List D) (S : Sto), done ++ items = all → I done S → (∀ done d rest S, done ++ d :: rest = all → I done S → ∃ ρ1 ρ' S', g d ρ0 = some ρ1 ∧ lb ρ1 S = .ok (.nx ρ') S' ∧ wk ρ0 ρ' = ρ0 ∧ I (done ++ [d]) S') →
    ∃ S', forG ρ0 chk g lb items ρ0 S = .ok (.nx ρ0) S' ∧ I all S'
  | [], done, S, hn, hI, _ => ⟨S, for_end (hc S), by rw [← hn, List.append_nil]; exact hI⟩
  | d :: items, done, S, hn, hI, h => by
    obtain ⟨ρ1, ρ', S1, h1, h2, h3, h4⟩ := h done d items S hn hI
    obtain ⟨S2, h5, h6⟩ := for_pre hc items (done ++ [d]) S1 (by rw [← hn]; simp) h4 h
    refine ⟨S2, ?_, h6⟩
    refine for_go (hc S) h1 h2 ?_
    rw [h3]
    exact h5
def nmP (p : Pr) : Prop := nm p.1 = true ∧ nm p.2 = true
/-- rising pairs: each of some gives to one of them -/
def STurn (g : F) : Prop := ∀ (n : Int) (S : Sto) (j i : Nat) (ys : List Str), PotAt j i n S → n < 10 ^ 28 → ys.length ≤ 30 → (∀ y ∈ ys, nm y = true) → ys.Nodup → ∃ (S' : Sto) (ps : List Pr), g [.ref j, .lst (ys.map D.str)] S = .ok (.tup (psD ps)) S' ∧ ps.length = ys.length ∧ (∀ p ∈ ps, nmP p) ∧ rsP ps = true ∧ PotAt j i (n + 30) S' ∧ Keep2 j i S S'
theorem erase_map {α β : Type} (f : α → β) : ∀ (xs : List α) (k : Nat), (xs.map f).eraseIdx k = (xs.eraseIdx k).map f
  | [], _ => rfl
  | x :: xs, 0 => rfl
  | x :: xs, k + 1 => by simp [erase_map f xs k]
theorem popAt_str {S : Sto} {r : Nat} {xs : List Str} {v : Int} (h : S[r]? = some (.lst (xs.map D.str))) (h0 : 0 ≤ v) (h1 : v < (xs.length : Int)) (h2 : xs.length ≤ 1000) : ∃ (y : Str) (xs' : List Str), stPopAt S (.ref r) [.int v] = some (.str y, S.set r (.lst (xs'.map D.str))) ∧ y ∈ xs ∧ (∀ z ∈ xs', z ∈ xs) ∧ xs'.length + 1 = xs.length := by
  have hv : v.toNat < xs.length := by omega
  refine ⟨xs[v.toNat], xs.eraseIdx v.toNat, ?_, List.getElem_mem hv, fun z hz => List.mem_of_mem_eraseIdx hz, by rw [List.length_eraseIdx_of_lt hv]; omega⟩
  unfold stPopAt
  dsimp only
  rw [h]
  dsimp only
  rw [if_pos ⟨by omega, by omega⟩]
  have e : seqIndex? v (xs.map D.str).length = some v.toNat := by
    unfold seqIndex?
    rw [List.length_map]
    simp only [if_neg (show ¬ v < 0 by omega)]
    rw [if_pos (by simp; omega)]
  rw [e]
  show (((xs.map D.str)[v.toNat]?).map _) = _
  rw [List.getElem?_map, List.getElem?_eq_getElem hv, erase_map]
  rfl
theorem len_ref {S : Sto} {k : Nat} {xs : List D} (h : S[k]? = some (.lst xs)) : gLen S [.ref k] = some (.int (xs.length : Int)) := by
  unfold gLen
  dsimp only
  rw [vw_ref h]
theorem popAt_perm {S : Sto} {r : Nat} {xs : List Str} {v : Int} (h : S[r]? = some (.lst (xs.map D.str))) (h0 : 0 ≤ v) (h1 : v < (xs.length : Int)) (h2 : xs.length ≤ 1000) : ∃ (y : Str) (xs' : List Str), stPopAt S (.ref r) [.int v] = some (.str y, S.set r (.lst (xs'.map D.str))) ∧ xs.Perm (y :: xs') := by
  have hv : v.toNat < xs.length := by omega
  refine ⟨xs[v.toNat], xs.eraseIdx v.toNat, ?_, ?_⟩
  · unfold stPopAt
    dsimp only
    rw [h]
    dsimp only
    rw [if_pos ⟨by omega, by omega⟩]
    have e : seqIndex? v (xs.map D.str).length = some v.toNat := by
      unfold seqIndex?
      rw [List.length_map]
      simp only [if_neg (show ¬ v < 0 by omega)]
      rw [if_pos (by simp; omega)]
    rw [e]
    show (((xs.map D.str)[v.toNat]?).map _) = _
    rw [List.getElem?_map, List.getElem?_eq_getElem hv, erase_map]
    rfl
  · have key : ∀ (l : List Str) (k : Nat) (hk : k < l.length), l.Perm (l[k] :: l.eraseIdx k) := by
      intro l
      induction l with
      | nil => intro k hk; simp at hk
      | cons x l ih =>
        intro k hk
        cases k with
        | zero => exact .refl _
        | succ k =>
          have hk' : k < l.length := by simpa using hk
          show (x :: l).Perm (l[k] :: x :: l.eraseIdx k)
          exact ((ih k hk').cons x).trans (.swap _ _ _)
    exact key xs v.toNat hv
theorem rise_sorted {ys : List Str} (h : ys.Nodup) : (ys.mergeSort sle).Pairwise fun a b => slt a b = true := by
  have hn : (ys.mergeSort sle).Nodup := (List.mergeSort_perm ys sle).nodup_iff.mpr h
  have hp : (ys.mergeSort sle).Pairwise fun a b => sle a b = true := List.pairwise_mergeSort (le := sle) (fun a b c h1 h2 => by
    unfold sle at *
    exact decide_eq_true (List.le_trans (of_decide_eq_true h1) (of_decide_eq_true h2))) (fun a b => by
    unfold sle
    rw [Bool.or_eq_true]
    exact (List.le_total (tl a) (tl b)).imp decide_eq_true decide_eq_true) _
  refine (List.pairwise_and_iff.mpr ⟨hp, hn⟩).imp fun {a b} q => ?_
  cases z : slt a b with
  | true => rfl
  | false =>
    have hb : slt b a = true := by
      rw [slt_tri (Ne.symm q.2), z]; rfl
    have q1 := q.1
    unfold sle at q1
    exact absurd (of_decide_eq_true q1) (List.not_le.mpr (of_decide_eq_true hb))
section
variable {P : Program} {w : World} {K : PySem.W.Frag} {mg : Str → Option Value} {base : Heap}
theorem ok_turned (T : T01 K mg) : ∃ g, FnL P w K mg base 3 T.f__law_turned_round T.fd__law_turned_round ["_law_pot_here", "_law_some"] g ∧ STurn g := by
  obtain ⟨gp, Fn__law_draw, Sp⟩ := ok_draw (P := P) (w := w) (base := base) T
  refine ⟨_, Fun.okL T.F__law_turned_round sc__law_turned_round fun cdv A outer s H E hr =>
(pssl_cons (psl_par (i := 2) (j := 3) rfl sc__law_turned_round.nd (pal_cons (pel_listN rfl T.n_list (by decide +kernel) (pal_cons (pel_var (i := 1)) pal_nil)) (pal_cons (pel_lstN pal_nil) pal_nil)))
  (pssl_cons (psl_for (passes_of rfl) rfl (pil_val (pel_callB (cl_sorted hr.units) rfl T.n_sorted (by decide +kernel) (pal_cons (pel_var (i := 1)) pal_nil))) (pgl_name (i := 4) sc__law_turned_round.nd) (pssl_one (psl_expr (pel_append (pel_var (i := 3)) (pel_tup (pal_cons (pel_var (i := 4)) (pal_cons (pel_popAt (pel_var (i := 2)) (pel_call Fn__law_draw (hr.mono (by decide)) rfl T.mg__law_draw T.F__law_draw.kp T.b__law_draw dfl_nil (pal_cons (pel_var (i := 0)) (pal_cons (pel_callB (cl_len) rfl T.n_len (by decide +kernel) (pal_cons (pel_var (i := 2)) pal_nil)) pal_nil)))) pal_nil)))))))
  (pssl_one (psl_ret (pel_callTy (cl_tuple) rfl T.n_tuple (by decide +kernel) (pal_cons (pel_var (i := 3)) pal_nil)))))), ?_⟩
  intro n S j i ys hp hn hl hT hnd
  have bb : (10 : Int) ^ 28 + 100 < 10 ^ 29 := by decide +kernel
  obtain ⟨hjl, hil⟩ := hp.lt
  have hr : (S ++ [O.lst (ys.map D.str)] ++ [O.lst []])[S.length]? = some (.lst (ys.map D.str)) := by simp
  have hf : (S ++ [O.lst (ys.map D.str)] ++ [O.lst []])[S.length + 1]? = some (.lst (psD [])) := by simp [psD]
  have hp2 : PotAt j i n (S ++ [O.lst (ys.map D.str)] ++ [O.lst []]) := hp.push.push
  have K2 : Keep2 j i S (S ++ [O.lst (ys.map D.str)] ++ [O.lst []]) := Keep2.push.trans Keep2.push
  have e1 : lPar 2 3 (aCons (lListN (aCons (lVar 1) aNil)) (aCons (lLstN aNil) aNil)) [some (.ref j), some (.lst (ys.map D.str)), none, none, none] S = .ok (.nx [some (.ref j), some (.lst (ys.map D.str)), some (.ref S.length), some (.ref (S.length + 1)), none]) (S ++ [O.lst (ys.map D.str)] ++ [O.lst []]) := by
    have h1 : lListN (aCons (lVar 1) aNil) [some (.ref j), some (.lst (ys.map D.str)), none, none, none] S = .ok (.ref S.length) (S ++ [O.lst (ys.map D.str)]) := listN_ok (acons_ok rfl rfl) rfl
    have h2 : lLstN aNil [some (.ref j), some (.lst (ys.map D.str)), none, none, none] (S ++ [O.lst (ys.map D.str)]) = .ok (.ref (S.length + 1)) (S ++ [O.lst (ys.map D.str)] ++ [O.lst []]) := by
      have := lstN_ok (t := aNil) (ρ := [some (.ref j), some (.lst (ys.map D.str)), none, none, none]) (S := S ++ [O.lst (ys.map D.str)]) (ds := []) rfl (Nat.zero_le _)
      rw [this, List.length_append]
      rfl
    exact par_ok (acons_ok h1 (acons_ok h2 rfl))
  generalize S ++ [O.lst (ys.map D.str)] ++ [O.lst []] = S2 at e1 hr hf hp2 K2
  have hsort : lCallB gSorted (aCons (lVar 1) aNil) [some (.ref j), some (.lst (ys.map D.str)), some (.ref S.length), some (.ref (S.length + 1)), none] S2 = .ok (.lst ((ys.mergeSort sle).map D.str)) S2 := callb_ok (acons_ok rfl rfl) (sorted_strs S2 _ ys rfl (by omega))
  have hperm := List.mergeSort_perm ys sle
  obtain ⟨S5, e5, hI⟩ := for_pre (chk := fun _ => True) (g := gtName 4) (all := (ys.mergeSort sle).map D.str) (ρ0 := [some (.ref j), some (.lst (ys.map D.str)), some (.ref S.length), some (.ref (S.length + 1)), none])
    (lb := lExpr (lBM "list" stApp (lVar 3) (aCons (lTup (aCons (lVar 4) (aCons (lBM "list" stPopAt (lVar 2) (aCons (lCall 2 gp [] (aCons (lVar 0) (aCons (lCallB gLen (aCons (lVar 2) aNil)) aNil))) aNil)) aNil))) aNil)))
    (I := fun done S' => ∃ (xs : List Str) (ps : List Pr), S'[S.length]? = some (.lst (xs.map D.str)) ∧ S'[S.length + 1]? = some (.lst (psD ps)) ∧ xs.length + done.length = ys.length ∧ (givs ps).map D.str = done ∧ (∀ x ∈ xs, x ∈ ys) ∧ (∀ p ∈ ps, nmP p) ∧ PotAt j i (n + done.length) S' ∧ Keep2 j i S S') (fun _ => trivial)
    ((ys.mergeSort sle).map D.str) [] S2 rfl ⟨ys, [], hr, hf, rfl, rfl, fun x hx => hx, by simp, hp2.mono (by simp), K2⟩ (by
    intro done d rest S' hall ⟨xs, ps, hr, hf, hxl, hpl, hX, hP, hp', hK⟩
    have hdl : done.length < ys.length := by
      have z := congrArg List.length hall
      rw [List.length_append, List.length_cons, List.length_map, hperm.length_eq] at z
      omega
    have hpn : ps.length = done.length := by
      have z := congrArg List.length hpl
      rw [List.length_map] at z
      unfold givs at z
      rw [List.length_map] at z
      exact z
    obtain ⟨y, hy, rfl⟩ := List.mem_map.mp (show d ∈ (ys.mergeSort sle).map D.str by rw [← hall]; simp)
    have ty := hT y (hperm.mem_iff.mp hy)
    obtain ⟨v, S6, e6, v0, v1, p6, k6⟩ := Sp (n + done.length) S' j i (xs.length : Int) hp' (by omega) (by omega) (Int.lt_trans (show (xs.length : Int) < 10 ^ 28 by omega) (by decide +kernel))
    have hr6 := k6.get hr (by omega) (by omega)
    have hf6 := k6.get hf (by omega) (by omega)
    obtain ⟨z, xs', ez, hz⟩ := popAt_perm hr6 v0 v1 (by omega)
    have hzl : xs.length = xs'.length + 1 := hz.length_eq
    have hzy : z ∈ ys := hX z (hz.mem_iff.mpr List.mem_cons_self)
    have hf7 : (S6.set S.length (.lst (xs'.map D.str)))[S.length + 1]? = some (.lst (psD ps)) := by rw [List.getElem?_set_ne (by omega)]; exact hf6
    have hr7 := set_self (o' := .lst (xs'.map D.str)) hr6
    have p7 : PotAt j i (n + done.length + 1) (S6.set S.length (.lst (xs'.map D.str))) := p6.set (by omega) (by omega)
    have k7 : Keep2 j i S (S6.set S.length (.lst (xs'.map D.str))) := (hK.trans k6).set_new (Nat.le_refl _)
    generalize S6.set S.length (.lst (xs'.map D.str)) = S7 at ez hf7 hr7 p7 k7
    have hap : stApp S7 (.ref (S.length + 1)) [.tup [.str y, .str z]] = some (.non, S7.set (S.length + 1) (.lst (psD (ps ++ [(y, z)])))) := (app_ok hf7 (by rw [psD_len]; omega)).trans (by simp [psD, pD])
    refine ⟨_, _, S7.set (S.length + 1) (.lst (psD (ps ++ [(y, z)]))), rfl, expr_ok (bm_ok rfl (ty_lst hf) (acons_ok (tup_ok (acons_ok rfl (acons_ok (bm_ok rfl (ty_lst hr) (acons_ok (call_ok (acons_ok rfl (acons_ok (callb_ok (acons_ok rfl rfl) ((len_ref hr).trans (by rw [List.length_map]))) rfl)) rfl e6) rfl) ez) rfl)) (by simp)) rfl) hap), rfl, xs', ps ++ [(y, z)], ?_, set_self hf7, by rw [List.length_append, List.length_singleton]; omega, by unfold givs at *; rw [List.map_append, List.map_append, hpl]; rfl, fun x hx => hX x (hz.mem_iff.mpr (List.mem_cons_of_mem _ hx)), fun p hp => ?_, (p7.set (by omega) (by omega)).mono (by rw [List.length_append, List.length_singleton]; omega), k7.set_new (by omega)⟩
    · rw [List.getElem?_set_ne (by omega)]; exact hr7
    · rcases List.mem_append.mp hp with hp | hp
      · exact hP p hp
      · rw [List.mem_singleton.mp hp]; exact ⟨ty, hT z hzy⟩)
  obtain ⟨xs, ps, _, hf5, _, hpl, _, hP, hp', hK⟩ := hI
  have eg : givs ps = ys.mergeSort sle := by
    have inj : ∀ a b : List Str, a.map D.str = b.map D.str → a = b := by
      intro a
      induction a with
      | nil => intro b h; cases b with
        | nil => rfl
        | cons _ _ => cases h
      | cons x a ih => intro b h; cases b with
        | nil => cases h
        | cons y b =>
          injection h with h1 h2
          injection h1 with h1
          rw [h1, ih b h2]
    exact inj _ _ hpl
  have hl2 : ps.length = ys.length := by
    have z := congrArg List.length eg
    unfold givs at z
    rw [List.length_map, hperm.length_eq] at z
    exact z
  rw [List.length_map, hperm.length_eq] at hp'
  exact ⟨S5, ps, body_rt (seq_nx e1 (seq_nx (for_ok (iter_ok hsort rfl) e5) (ret_ok (callb_ok (acons_ok rfl rfl) (tup_ref hf5))))), hl2, hP, pair_rise ps (by rw [eg]; exact rise_sorted hnd), hp'.mono (by omega), hK⟩
end
end K01

namespace K01
open PySem PySem.Spec PyProof.Rows L2 MP TL
open K06 (riP Cd cd_of cd_repr)
open K59 (Pr nm givs taks slt isL lets nm_ok sle sorted_strs)
/-! ### words -/
theorem Tx.mono {m n : Nat} {x : Str} (h : Tx m x) (hm : m ≤ n) : Tx n x := ⟨Nat.le_trans h.1 hm, h.2⟩
theorem len_app' (x y : Str) : (x ++ y).length = x.length + y.length := by rw [len_tl, tl_append, List.length_append, ← len_tl, ← len_tl]
theorem Tx.lit {m : Nat} {x : Str} (h : (decide (x.length ≤ m) && (tl x).all fun c => decide (c < 0x110000)) = true) : Tx m x := by
  rw [Bool.and_eq_true, decide_eq_true_eq, List.all_eq_true] at h
  exact ⟨h.1, fun c hc => of_decide_eq_true (h.2 c hc)⟩
theorem sign_at {S : Sto} {z : Str} {v : Int} {m : Nat} (hz : Tx m z) (hm : m ≤ 100000) (h0 : 0 ≤ v) (h1 : v < (z.length : Int)) : ∃ y, gIx S (.str z) (.int v) = some (.str y) ∧ Tx 1 y := by
  have hv : v.toNat < (tl z).length := by rw [← len_tl]; omega
  refine ⟨⟨#[(tl z)[v.toNat]]⟩, ?_, ?_⟩
  · unfold gIx
    dsimp only [vw]
    rw [if_pos (sz (Nat.le_trans hz.1 hm))]
    unfold atI ixN
    rw [if_pos h0, if_pos (show v < ((z.cps.toList.length : Nat) : Int) from h1)]
    show ((tl z)[v.toNat]?).map _ = _
    rw [List.getElem?_eq_getElem hv]
    rfl
  · refine ⟨Nat.le_refl 1, fun c hc => ?_⟩
    have hc' : c ∈ [(tl z)[v.toNat]] := hc
    rw [List.mem_singleton.mp hc']
    exact hz.2 _ (List.getElem_mem hv)
theorem range_ok {t : LA} {ρ : Ev} {S S1 : Sto} {j : Int} (h : t ρ S = .ok [.int j] S1) (h0 : 0 ≤ j) (h1 : j < 1000000) : lRange1 t ρ S = .ok ⟨(List.range j.toNat).map fun (i : Nat) => .int (i : Int), fun _ => True⟩ S1 := by
  unfold lRange1
  rw [h, bind_ok]
  show (if -(2 ^ 62) ≤ j ∧ j < 2 ^ 62 then _ else _) = _
  rw [if_pos ⟨by omega, by omega⟩]
theorem slS {S : Sto} {z : Str} {lo hi : Option Int} (h : z.length ≤ 100000) : gSlice S (.str z) lo hi = some (.str (cutS z lo hi)) := by
  show (if z.length ≤ sizeLine then some (D.str (cutS z lo hi)) else none) = _
  rw [if_pos (sz h)]
theorem sIx_pos {n d : Nat} {v : Int} (h : 0 ≤ v) : HT.sIx n d (some v) = min v.toNat n := by
  unfold HT.sIx
  dsimp only
  rw [if_neg (by omega)]
theorem tl_take (z : Str) {v : Int} (h : 0 ≤ v) : tl (cutS z none (some v)) = (tl z).take v.toNat := by
  show ((tl z).drop (HT.sIx (tl z).length 0 none)).take (HT.sIx (tl z).length (tl z).length (some v) - HT.sIx (tl z).length 0 none) = _
  rw [sIx_pos h, HT.sIx_none, List.drop_zero, Nat.sub_zero, List.take_eq_take_iff]
  omega
theorem tl_drop (z : Str) {v : Int} (h : 0 ≤ v) : tl (cutS z (some v) none) = (tl z).drop v.toNat := by
  show ((tl z).drop (HT.sIx (tl z).length 0 (some v))).take (HT.sIx (tl z).length (tl z).length none - HT.sIx (tl z).length 0 (some v)) = _
  rw [sIx_pos h, HT.sIx_none, List.take_of_length_le (by rw [List.length_drop]; exact Nat.le_refl _)]
  by_cases q : v.toNat ≤ (tl z).length
  · rw [Nat.min_eq_left q]
  · rw [Nat.min_eq_right (by omega), List.drop_of_length_le (Nat.le_refl _), List.drop_of_length_le (by omega)]
theorem ln_take {z : Str} {v : Int} (h0 : 0 ≤ v) : (cutS z none (some v)).length = min v.toNat z.length := by rw [len_tl, tl_take z h0, List.length_take, ← len_tl]
theorem ln_drop {z : Str} {v : Int} (h0 : 0 ≤ v) : (cutS z (some v) none).length = z.length - v.toNat := by rw [len_tl, tl_drop z h0, List.length_drop, ← len_tl]
theorem cd_take {z : Str} {v : Int} (h : Cd z) (h0 : 0 ≤ v) : Cd (cutS z none (some v)) := fun c hc => by
  rw [tl_take z h0] at hc
  exact h c (List.mem_of_mem_take hc)
theorem cd_drop {z : Str} {v : Int} (h : Cd z) (h0 : 0 ≤ v) : Cd (cutS z (some v) none) := fun c hc => by
  rw [tl_drop z h0] at hc
  exact h c (List.mem_of_mem_drop hc)
/-- a joined stem of single signs -/
theorem stem_tx : ∀ ys : List Str, (∀ y ∈ ys, Tx 1 y) → Tx ys.length (Str.join "" ys)
  | [], _ => ⟨Nat.le_refl _, fun c hc => by cases hc⟩
  | [y], h => h y (by simp)
  | y :: z :: r, h => by
    have ih := stem_tx (z :: r) fun x hx => h x (by simp only [List.mem_cons] at hx ⊢; exact .inr hx)
    have hy := h y (by simp)
    have e : Str.join "" (y :: z :: r) = y ++ Str.join "" (z :: r) := by
      refine ext_tl ?_
      rw [tl_append, tl_join, tl_join]
      have e0 : tl ("" : Str) = [] := by decide
      simp only [List.map_cons, joinL, e0, List.nil_append]
    rw [e]
    refine ⟨?_, hy.2.app ih.2⟩
    rw [len_app']
    have := hy.1
    have := ih.1
    simp only [List.length_cons] at *
    omega
end K01

namespace K01
open PySem PySem.Spec PyProof.Rows L2 MP TL
open K06 (riP Cd cd_of cd_repr)
open K59 (Pr nm givs taks slt isL lets nm_ok sle sorted_strs)
def alph : Str := "abcdefghijklmnopqrstuvwxyz"
def alphS : List Str := alph.cps.toList.map fun c => (⟨#[c]⟩ : Str)
theorem alph_sgs : sgsD alph = alphS.map D.str := by unfold sgsD alphS; rw [List.map_map]; rfl
theorem alph_len : alphS.length = 26 := by decide
/-- one letter -/
def Lt (y : Str) : Prop := ∃ c, y = ⟨#[c]⟩ ∧ isL c = true
theorem Lt.tl {y : Str} (h : Lt y) : ∃ c, tl y = [c] ∧ isL c = true := by
  obtain ⟨c, rfl, hc⟩ := h
  exact ⟨c, rfl, hc⟩
theorem Lt.tx {y : Str} (h : Lt y) : y.length = 1 := by
  obtain ⟨c, rfl, hc⟩ := h
  rfl
theorem alph_lt : ∀ y ∈ alphS, Lt y := by
  intro y hy
  obtain ⟨c, hc, rfl⟩ := List.mem_map.mp hy
  exact ⟨c, rfl, decide_eq_true hc⟩
theorem alph_nd : alphS.Nodup := by decide
/-- letters alone, so many at most -/
def Ls (m : Nat) (x : Str) : Prop := x.length ≤ m ∧ (tl x).all isL = true
theorem nm_of {x : Str} (h : Ls 12 x) (h1 : 1 ≤ x.length) : nm x = true := by
  unfold nm
  rw [decide_eq_true ⟨h1, h.1⟩, h.2]
  rfl
theorem join_one (y : Str) (r : List Str) : Str.join "" (y :: r) = y ++ Str.join "" r := by
  refine ext_tl ?_
  rw [tl_append, tl_join, tl_join]
  have e0 : tl ("" : Str) = [] := by decide
  cases r with
  | nil => simp [joinL]
  | cons z r => simp only [List.map_cons, joinL, e0, List.nil_append]
theorem stem_ls : ∀ ys : List Str, (∀ y ∈ ys, Lt y) → Ls ys.length (Str.join "" ys)
  | [], _ => ⟨Nat.le_refl _, rfl⟩
  | y :: r, h => by
    have ih := stem_ls r fun x hx => h x (by simp [hx])
    obtain ⟨c, e, hc⟩ := (h y (by simp)).tl
    have e1 := (h y (by simp)).tx
    rw [join_one]
    refine ⟨by rw [len_app', e1, List.length_cons]; have := ih.1; omega, ?_⟩
    rw [tl_append, e]
    simp [hc, ih.2]
theorem sign_lt {S : Sto} {z : Str} {v : Int} (hz : (tl z).all isL = true) (hm : z.length ≤ 100000) (h0 : 0 ≤ v) (h1 : v < (z.length : Int)) : ∃ y, gIx S (.str z) (.int v) = some (.str y) ∧ Lt y := by
  have hv : v.toNat < (tl z).length := by rw [← len_tl]; omega
  refine ⟨⟨#[(tl z)[v.toNat]]⟩, ?_, _, rfl, List.all_eq_true.mp hz _ (List.getElem_mem hv)⟩
  unfold gIx
  dsimp only [vw]
  rw [if_pos (sz hm)]
  unfold atI ixN
  rw [if_pos h0, if_pos (show v < ((z.cps.toList.length : Nat) : Int) from h1)]
  show ((tl z)[v.toNat]?).map _ = _
  rw [List.getElem?_eq_getElem hv]
  rfl
theorem all_take {z : Str} {v : Int} (h : (tl z).all isL = true) (h0 : 0 ≤ v) : (tl (cutS z none (some v))).all isL = true := by
  rw [tl_take z h0, List.all_eq_true]
  exact fun c hc => List.all_eq_true.mp h c (List.mem_of_mem_take hc)
theorem all_drop {z : Str} {v : Int} (h : (tl z).all isL = true) (h0 : 0 ≤ v) : (tl (cutS z (some v) none)).all isL = true := by
  rw [tl_drop z h0, List.all_eq_true]
  exact fun c hc => List.all_eq_true.mp h c (List.mem_of_mem_drop hc)
/-- its sign at a place -/
def sgn (a : Nat) (x : Str) : Option Nat := (tl x)[a]?
theorem letters_nd : ∀ {us : List Str}, (∀ y ∈ us, Lt y) → us.Nodup → (us.map (sgn 0)).Nodup
  | [], _, _ => .nil
  | u :: us, h, hn => by
    rw [List.nodup_cons] at hn
    rw [List.map_cons, List.nodup_cons]
    refine ⟨fun hm => hn.1 ?_, letters_nd (fun y hy => h y (List.mem_cons_of_mem _ hy)) hn.2⟩
    obtain ⟨v, hv, e⟩ := List.mem_map.mp hm
    obtain ⟨c, rfl, _⟩ := h u List.mem_cons_self
    obtain ⟨d, rfl, _⟩ := h v (List.mem_cons_of_mem _ hv)
    have e' : some d = some c := e
    injection e' with e'
    rw [← e']
    exact hv
def SWords (g : F) : Prop := ∀ (n : Int) (S : Sto) (j i : Nat) (size : Int), PotAt j i n S → n < 10 ^ 27 → 0 ≤ size → size ≤ 26 → ∃ (q : Nat) (S' : Sto) (ys : List Str), g [.ref j, .int size] S = .ok (.ref q) S' ∧ q ≠ j ∧ q ≠ i ∧ S'[q]? = some (.lst (ys.map D.str)) ∧ ys.length = size.toNat ∧ (∀ y ∈ ys, nm y = true) ∧ ys.Nodup ∧ PotAt j i (n + 100) S' ∧ Keep2 j i S S'
section
variable {P : Program} {w : World} {K : PySem.W.Frag} {mg : Str → Option Value} {base : Heap}
theorem ok_words (T : T01 K mg) : ∃ g, FnL P w K mg base 4 T.f__law_words T.fd__law_words ["_law_pot_here", "_law_size"] g ∧ SWords g := by
  obtain ⟨gd, Fn__law_draw, Sd⟩ := ok_draw (P := P) (w := w) (base := base) T
  obtain ⟨gp, Fn__law_pick, Sp⟩ := ok_pick (P := P) (w := w) (base := base) T
  refine ⟨_, Fun.okL T.F__law_words sc__law_words fun cdv A outer s H E hr =>
(pssl_cons (psl_par (i := 2) (j := 3) rfl sc__law_words.nd (pal_cons (pel_listS rfl rfl T.n_list (by decide +kernel) (pal_cons pel_str pal_nil)) (pal_cons (pel_lstN pal_nil) pal_nil)))
  (pssl_cons (psl_set (i := 4) sc__law_words.nd (pel_strjoin pel_str (pel_lc (own := [("_law_k", 5)]) rfl sc__law_words.nd (pil_range1 rfl T.n_range (pal_cons (pel_call Fn__law_draw (hr.mono (by decide)) rfl T.mg__law_draw T.F__law_draw.kp T.b__law_draw dfl_nil (pal_cons (pel_var (i := 0)) (pal_cons pel_int pal_nil))) pal_nil)) (blkOk_by (N := N__law_words) (sc := defScope s__law_words) (by decide +kernel)) (fun _ _ _ _ _ => (pgl_name (i := 5) sc__law_words.nd)) (fun _ _ _ _ _ => ptsl_nil) (fun _ _ _ _ _ => (pel_call Fn__law_pick (hr.mono (by decide)) rfl T.mg__law_pick T.F__law_pick.kp T.b__law_pick dfl_nil (pal_cons (pel_var (i := 0)) (pal_cons pel_str pal_nil)))))))
  (pssl_cons (psl_par (i := 6) (j := 7) rfl sc__law_words.nd (pal_cons (pel_call Fn__law_draw (hr.mono (by decide)) rfl T.mg__law_draw T.F__law_draw.kp T.b__law_draw dfl_nil (pal_cons (pel_var (i := 0)) (pal_cons (pel_op opl_add2 (pel_callB (cl_len) rfl T.n_len (by decide +kernel) (pal_cons (pel_var (i := 4)) pal_nil)) pel_int) pal_nil))) (pal_cons (pel_call Fn__law_draw (hr.mono (by decide)) rfl T.mg__law_draw T.F__law_draw.kp T.b__law_draw dfl_nil (pal_cons (pel_var (i := 0)) (pal_cons pel_int pal_nil))) pal_nil)))
  (pssl_cons (psl_for (passes_of rfl) rfl (pil_range1 rfl T.n_range (pal_cons (pel_var (i := 1)) pal_nil)) (pgl_name (i := 5) sc__law_words.nd) (pssl_cons (psl_set (i := 8) sc__law_words.nd (pel_popAt (pel_var (i := 2)) (pel_call Fn__law_draw (hr.mono (by decide)) rfl T.mg__law_draw T.F__law_draw.kp T.b__law_draw dfl_nil (pal_cons (pel_var (i := 0)) (pal_cons (pel_callB (cl_len) rfl T.n_len (by decide +kernel) (pal_cons (pel_var (i := 2)) pal_nil)) pal_nil)))))
  (pssl_one (psl_expr (pel_append (pel_var (i := 3)) (pel_ix ixl_seq (pel_lst (pal_cons (pel_op opl_add2 (pel_op opl_add2 (pel_slice sll_any (pel_var (i := 4)) pol_none (pol_some (pel_var (i := 6)))) (pel_var (i := 8))) (pel_slice sll_any (pel_var (i := 4)) (pol_some (pel_var (i := 6))) pol_none)) (pal_cons (pel_op opl_add2 (pel_var (i := 8)) (pel_slice sll_any (pel_var (i := 4)) pol_none (pol_some (pel_call Fn__law_draw (hr.mono (by decide)) rfl T.mg__law_draw T.F__law_draw.kp T.b__law_draw dfl_nil (pal_cons (pel_var (i := 0)) (pal_cons (pel_op opl_add2 (pel_callB (cl_len) rfl T.n_len (by decide +kernel) (pal_cons (pel_var (i := 4)) pal_nil)) pel_int) pal_nil)))))) pal_nil))) (pel_var (i := 7))))))))
  (pssl_one (psl_ret (pel_var (i := 3)))))))), ?_⟩
  intro n S j i size hp hn z0 z1
  have bb : (10 : Int) ^ 27 + 100 < 10 ^ 28 ∧ (10 : Int) ^ 28 + 100 < 10 ^ 29 ∧ (1000 : Int) < 10 ^ 200 := by decide +kernel
  obtain ⟨bb1, bb2, bb3⟩ := bb
  obtain ⟨hjl, hil⟩ := hp.lt
  have hL : (S ++ [O.lst (alphS.map D.str)] ++ [O.lst []])[S.length]? = some (.lst (alphS.map D.str)) := by simp
  have hF : (S ++ [O.lst (alphS.map D.str)] ++ [O.lst []])[S.length + 1]? = some (.lst (([] : List Str).map D.str)) := by simp
  have p0 : PotAt j i n (S ++ [O.lst (alphS.map D.str)] ++ [O.lst []]) := hp.push.push
  have K0 : Keep2 j i S (S ++ [O.lst (alphS.map D.str)] ++ [O.lst []]) := Keep2.push.trans Keep2.push
  have e0 : lPar 2 3 (aCons (lListS (aCons (lC (.str alph)) aNil)) (aCons (lLstN aNil) aNil)) [some (.ref j), some (.int size), none, none, none, none, none, none, none] S = .ok (.nx [some (.ref j), some (.int size), some (.ref S.length), some (.ref (S.length + 1)), none, none, none, none, none]) (S ++ [O.lst (alphS.map D.str)] ++ [O.lst []]) := by
    have h1 : lListS (aCons (lC (.str alph)) aNil) [some (.ref j), some (.int size), none, none, none, none, none, none, none] S = .ok (.ref S.length) (S ++ [O.lst (alphS.map D.str)]) := by
      unfold lListS
      show (if alph.length ≤ 1000 then (R.ok (.ref S.length) (S ++ [.lst (sgsD alph)]) : R D) else .bad) = _
      rw [if_pos (by decide), alph_sgs]
    have h2 : lLstN aNil [some (.ref j), some (.int size), none, none, none, none, none, none, none] (S ++ [O.lst (alphS.map D.str)]) = .ok (.ref (S.length + 1)) (S ++ [O.lst (alphS.map D.str)] ++ [O.lst []]) := by
      have := lstN_ok (t := aNil) (ρ := [some (.ref j), some (.int size), none, none, none, none, none, none, none]) (S := S ++ [O.lst (alphS.map D.str)]) (ds := []) rfl (Nat.zero_le _)
      rw [this, List.length_append]
      rfl
    exact par_ok (acons_ok h1 (acons_ok h2 rfl))
  generalize S ++ [O.lst (alphS.map D.str)] ++ [O.lst []] = S0 at e0 hL hF p0 K0
  obtain ⟨L, hLS⟩ : ∃ L, L = S.length := ⟨_, rfl⟩
  rw [← hLS] at e0 hL hF
  -- the stem
  obtain ⟨m, S1, e1, m0, m1, p1, k1⟩ := Sd n S0 j i 12 p0 (by omega) (by omega) (by omega)
  have picks : ∀ (items : List D) (n : Int) (S : Sto), PotAt j i n S → n + items.length < 10 ^ 29 → ∃ (ys : List Str) (S' : Sto), compG (fun _ => True) (gtName 5) tYesL (lCall 2 gp [] (aCons (lVar 0) (aCons (lC (.str "abxyz")) aNil))) [some (.ref j), some (.int size), some (.ref L), some (.ref (L + 1)), none, none, none, none, none] items S = .ok (ys.map D.str) S' ∧ ys.length = items.length ∧ (∀ y ∈ ys, Lt y) ∧ PotAt j i (n + items.length) S' ∧ Keep2 j i S S' := by
    intro items
    induction items with
    | nil => exact fun n S hp hn => ⟨[], S, comp_end trivial, rfl, by simp, hp.mono (by simp), .refl⟩
    | cons d items ih =>
      intro n S hp hn
      simp only [List.length_cons] at hn
      obtain ⟨y, S2, e2, ⟨x, rfl, tx⟩, p2, k2⟩ := Sp n S j i (.str "abxyz") 5 (fun y => ∃ e, y = .str e ∧ Lt e) hp (by omega) rfl (by omega) (by omega) fun S' v _ v0 v1 => by
        obtain ⟨y, hy, ty⟩ := sign_lt (S := S') (z := "abxyz") (v := v) (by decide) (by decide) v0 (by rw [show (("abxyz" : Str).length : Int) = 5 by decide]; exact v1)
        exact ⟨_, hy, y, rfl, ty⟩
      obtain ⟨ys, S3, e3, h3, t3, p3, k3⟩ := ih (n + 1) S2 p2 (by omega)
      refine ⟨x :: ys, S3, comp_go trivial rfl (call_ok (acons_ok rfl (acons_ok rfl rfl)) rfl e2) e3, by simp [h3], fun y hy => ?_, p3.mono (by simp only [List.length_cons]; omega), k2.trans k3⟩
      rcases List.mem_cons.mp hy with rfl | hy
      · exact tx
      · exact t3 y hy
  obtain ⟨st, S2, e2, l2, t2, p2, k2⟩ := picks ((List.range m.toNat).map fun (i : Nat) => D.int (i : Int)) (n + 1) S1 p1 (by simp; omega)
  rw [List.length_map, List.length_range] at l2 p2
  have hcomp : lComp (lRange1 (aCons (lCall 2 gd [] (aCons (lVar 0) (aCons (lC (.int 12)) aNil))) aNil)) [5] (gtName 5) tYesL (lCall 2 gp [] (aCons (lVar 0) (aCons (lC (.str "abxyz")) aNil))) [some (.ref j), some (.int size), some (.ref L), some (.ref (L + 1)), none, none, none, none, none] S0 = .ok (.lst (st.map D.str)) S2 :=
    comp_okL (range_ok (acons_ok (call_ok (acons_ok rfl (acons_ok rfl rfl)) rfl e1) rfl) m0 (by omega)) (by simp; omega) e2
  have hsum : ∀ ys : List Str, (∀ y ∈ ys, Lt y) → (ys.map (·.length)).sum ≤ ys.length := by
    intro ys
    induction ys with
    | nil => intro _; simp
    | cons y ys ih =>
      intro h
      have a := ih fun x hx => h x (by simp [hx])
      have b := (h y (by simp)).tx
      simp only [List.map_cons, List.sum_cons, List.length_cons]
      omega
  have hjo : stJoin S2 (.str "") [.lst (st.map D.str)] = some (.str (Str.join "" st), S2) := by
    unfold stJoin
    dsimp only [vw]
    rw [strsD_map]
    dsimp only
    have hs := hsum st t2
    have e : ("" : Str).length = 0 := by decide
    rw [e, if_pos (by omega), join_eq]
  have tst := stem_ls st t2
  generalize Str.join "" st = stem at hjo tst
  have tst : Ls 11 stem := ⟨Nat.le_trans tst.1 (by omega), tst.2⟩
  have hset : lSet 4 (lBM "str" stJoin (lC (.str "")) (aCons (lComp (lRange1 (aCons (lCall 2 gd [] (aCons (lVar 0) (aCons (lC (.int 12)) aNil))) aNil)) [5] (gtName 5) tYesL (lCall 2 gp [] (aCons (lVar 0) (aCons (lC (.str "abxyz")) aNil)))) aNil)) [some (.ref j), some (.int size), some (.ref L), some (.ref (L + 1)), none, none, none, none, none] S0 = .ok (.nx [some (.ref j), some (.int size), some (.ref L), some (.ref (L + 1)), some (.str stem), none, none, none, none]) S2 := set_ok (bms_ok rfl (acons_ok hcomp rfl) hjo)
  have hsl : ∀ (ρ : Ev) (S : Sto), ρ[4]? = some (some (.str stem)) → lBin gAdd2 (lCallB gLen (aCons (lVar 4) aNil)) (lC (.int 1)) ρ S = .ok (.int ((stem.length : Int) + 1)) S := fun ρ S h => bin_ok (callb_ok (acons_ok (by unfold lVar; rw [h]) rfl) (len_str (Nat.le_trans tst.1 (by decide)))) rfl add2_ii
  have hstl := tst.1
  obtain ⟨at_, S3, e3, a0, a1, p3, k3⟩ := Sd (n + 1 + m.toNat) S2 j i ((stem.length : Int) + 1) p2 (by omega) (by omega) (by omega)
  obtain ⟨wy, S4, e4, w0, w1, p4, k4⟩ := Sd (n + 1 + m.toNat + 1) S3 j i 2 p3 (by omega) (by omega) (by omega)
  have hpar : lPar 6 7 (aCons (lCall 2 gd [] (aCons (lVar 0) (aCons (lBin gAdd2 (lCallB gLen (aCons (lVar 4) aNil)) (lC (.int 1))) aNil))) (aCons (lCall 2 gd [] (aCons (lVar 0) (aCons (lC (.int 2)) aNil))) aNil)) [some (.ref j), some (.int size), some (.ref L), some (.ref (L + 1)), some (.str stem), none, none, none, none] S2 = .ok (.nx [some (.ref j), some (.int size), some (.ref L), some (.ref (L + 1)), some (.str stem), none, some (.int at_), some (.int wy), none]) S4 :=
    par_ok (acons_ok (call_ok (acons_ok rfl (acons_ok (hsl _ _ rfl) rfl)) rfl e3) (acons_ok (call_ok (acons_ok rfl (acons_ok rfl rfl)) rfl e4) rfl))
  have K4 := (((K0.trans k1).trans k2).trans k3).trans k4
  have hL4 := ((((k1.trans k2).trans k3).trans k4).get hL (by omega) (by omega))
  have hF4 := ((((k1.trans k2).trans k3).trans k4).get hF (by omega) (by omega))
  obtain ⟨S5, e5, hI⟩ := for_invB (chk := fun _ => True) (g := gtName 5) (N := size.toNat) (ρ0 := [some (.ref j), some (.int size), some (.ref L), some (.ref (L + 1)), some (.str stem), none, some (.int at_), some (.int wy), none])
    (lb := lSeq (lSet 8 (lBM "list" stPopAt (lVar 2) (aCons (lCall 2 gd [] (aCons (lVar 0) (aCons (lCallB gLen (aCons (lVar 2) aNil)) aNil))) aNil)))
      (lExpr (lBM "list" stApp (lVar 3) (aCons (lBin gIx (lLst (aCons (lBin gAdd2 (lBin gAdd2 (lSlice gSlice (lVar 4) oNone (oSome (lVar 6))) (lVar 8)) (lSlice gSlice (lVar 4) (oSome (lVar 6)) oNone)) (aCons (lBin gAdd2 (lVar 8) (lSlice gSlice (lVar 4) oNone (oSome (lCall 2 gd [] (aCons (lVar 0) (aCons (lBin gAdd2 (lCallB gLen (aCons (lVar 4) aNil)) (lC (.int 1))) aNil)))))) aNil))) (lVar 7)) aNil))))
    (I := fun k S' => ∃ ls fs us : List Str, S'[L]? = some (.lst (ls.map D.str)) ∧ S'[L + 1]? = some (.lst (fs.map D.str)) ∧ ls.length + k = 26 ∧ fs.length = k ∧ (∀ y ∈ ls, Lt y) ∧ (∀ y ∈ fs, nm y = true) ∧ (us ++ ls).Nodup ∧ (∀ y ∈ us, Lt y) ∧ fs.map (sgn (if wy = 0 then at_.toNat else 0)) = us.map (sgn 0) ∧ PotAt j i (n + 20 + 2 * k) S' ∧ Keep2 j i S S') (fun _ => trivial)
    ((List.range size.toNat).map fun (i : Nat) => D.int (i : Int)) 0 S4 (by simp) ⟨alphS, [], [], hL4, hF4, by rw [alph_len], rfl, alph_lt, by simp, alph_nd, by simp, rfl, p4.mono (by omega), K4⟩ (by
    intro d hd k S' hk ⟨ls, fs, us, hl, hf, hll, hfl, tl1, tf, hnd, hus, hsg, hp', hK⟩
    obtain ⟨x, hx, rfl⟩ := List.mem_map.mp hd
    obtain ⟨v, S6, e6, v0, v1, p6, k6⟩ := Sd (n + 20 + 2 * k) S' j i (ls.length : Int) hp' (by omega) (by omega) (by omega)
    have hl6 := k6.get hl (by omega) (by omega)
    have hf6 := k6.get hf (by omega) (by omega)
    obtain ⟨le, ls', ez, hpm⟩ := popAt_perm hl6 v0 v1 (by omega)
    have hl' : ls.length = ls'.length + 1 := hpm.length_eq
    have tle := tl1 le (hpm.mem_iff.mpr List.mem_cons_self)
    have tle1 := tle.tx
    obtain ⟨lc, hlc, hlcL⟩ := tle.tl
    have hf7 : (S6.set L (.lst (ls'.map D.str)))[L + 1]? = some (.lst (fs.map D.str)) := by rw [List.getElem?_set_ne (by omega)]; exact hf6
    have hl7 := set_self (o' := .lst (ls'.map D.str)) hl6
    have p7 : PotAt j i (n + 20 + 2 * k + 1) (S6.set L (.lst (ls'.map D.str))) := p6.set (by omega) (by omega)
    have k7 : Keep2 j i S (S6.set L (.lst (ls'.map D.str))) := (hK.trans k6).set_new (by omega)
    generalize S6.set L (.lst (ls'.map D.str)) = S7 at ez hf7 hl7 p7 k7
    obtain ⟨v8, S8, e8, u0, u1, p8, k8⟩ := Sd (n + 20 + 2 * k + 1) S7 j i ((stem.length : Int) + 1) p7 (by omega) (by omega) (by omega)
    have hf8 := k8.get hf7 (by omega) (by omega)
    have hl8 := k8.get hl7 (by omega) (by omega)
    have ta : (cutS stem none (some at_) ++ le ++ cutS stem (some at_) none).length ≤ 12 ∧ 1 ≤ (cutS stem none (some at_) ++ le ++ cutS stem (some at_) none).length := by
      rw [len_app', len_app', ln_take a0, ln_drop a0]
      omega
    have tb : (le ++ cutS stem none (some v8)).length ≤ 12 ∧ 1 ≤ (le ++ cutS stem none (some v8)).length := by
      rw [len_app', ln_take u0]
      omega
    have l1 := ln_take (z := stem) a0
    have l2 := ln_drop (z := stem) a0
    have l3 := ln_take (z := stem) u0
    have l4 := tle1
    have hA : ∀ (ρ : Ev) (S : Sto), ρ[4]? = some (some (.str stem)) → ρ[6]? = some (some (.int at_)) → ρ[8]? = some (some (.str le)) → lBin gAdd2 (lBin gAdd2 (lSlice gSlice (lVar 4) oNone (oSome (lVar 6))) (lVar 8)) (lSlice gSlice (lVar 4) (oSome (lVar 6)) oNone) ρ S = .ok (.str (cutS stem none (some at_) ++ le ++ cutS stem (some at_) none)) S := fun ρ S h4 h6 h8 =>
      bin_ok (bin_ok (slice_ok (by unfold lVar; rw [h4]) rfl (osome_ok (by unfold lVar; rw [h6])) (slS (by omega))) (by unfold lVar; rw [h8]) (add2_ss (sz (by omega)))) (slice_ok (by unfold lVar; rw [h4]) (osome_ok (by unfold lVar; rw [h6])) rfl (slS (by omega))) (add2_ss (by rw [len_app']; exact sz (by omega)))
    obtain ⟨y, hy, ty, sy⟩ : ∃ y : Str, gIx S8 (.lst [.str (cutS stem none (some at_) ++ le ++ cutS stem (some at_) none), .str (le ++ cutS stem none (some v8))]) (.int wy) = some (.str y) ∧ nm y = true ∧ sgn (if wy = 0 then at_.toNat else 0) y = sgn 0 le := by
      by_cases hw : wy = 0
      · subst hw
        refine ⟨_, rfl, nm_of ⟨ta.1, ?_⟩ ta.2, ?_⟩
        · rw [tl_append, tl_append, hlc, List.all_append, List.all_append, all_take tst.2 a0, all_drop tst.2 a0]
          simp [hlcL]
        · rw [if_pos rfl]
          unfold sgn
          rw [tl_append, tl_append, hlc]
          have e : (tl (cutS stem none (some at_))).length = at_.toNat := by rw [← len_tl, l1]; omega
          rw [List.getElem?_append_left (by simp [e]), List.getElem?_append_right (by rw [e]; exact Nat.le_refl _), e]
          simp
      · have : wy = 1 := by omega
        subst this
        refine ⟨_, rfl, nm_of ⟨tb.1, ?_⟩ tb.2, ?_⟩
        · rw [tl_append, hlc, List.all_append, all_take tst.2 u0]
          simp [hlcL]
        · rw [if_neg (by decide)]
          unfold sgn
          rw [tl_append, hlc]
          rfl
    have hel : lBin gIx (lLst (aCons (lBin gAdd2 (lBin gAdd2 (lSlice gSlice (lVar 4) oNone (oSome (lVar 6))) (lVar 8)) (lSlice gSlice (lVar 4) (oSome (lVar 6)) oNone)) (aCons (lBin gAdd2 (lVar 8) (lSlice gSlice (lVar 4) oNone (oSome (lCall 2 gd [] (aCons (lVar 0) (aCons (lBin gAdd2 (lCallB gLen (aCons (lVar 4) aNil)) (lC (.int 1))) aNil)))))) aNil))) (lVar 7) [some (.ref j), some (.int size), some (.ref L), some (.ref (L + 1)), some (.str stem), some (.int (x : Int)), some (.int at_), some (.int wy), some (.str le)] S7 = .ok (.str y) S8 :=
      bin_ok (lst_ok (acons_ok (hA _ _ rfl rfl rfl) (acons_ok (bin_ok rfl (slice_ok rfl rfl (osome_ok (call_ok (acons_ok rfl (acons_ok (hsl _ _ rfl) rfl)) rfl e8)) (slS (by omega))) (add2_ss (sz (by omega)))) rfl)) (by simp)) rfl hy
    refine ⟨_, _, S8.set (L + 1) (.lst ((fs ++ [y]).map D.str)), rfl, seq_nx (set_ok (bm_ok rfl (ty_lst hl) (acons_ok (call_ok (acons_ok rfl (acons_ok (callb_ok (acons_ok rfl rfl) ((len_ref hl).trans (by rw [List.length_map]))) rfl)) rfl e6) rfl) ez)) (expr_ok (bm_ok rfl (ty_lst hf7) (acons_ok hel rfl) ((app_ok hf8 (by rw [List.length_map]; omega)).trans (by rw [List.map_append]; rfl)))), rfl, ls', fs ++ [y], us ++ [le], ?_, set_self hf8, by omega, by simp [hfl], fun z hz => tl1 z (hpm.mem_iff.mpr (List.mem_cons_of_mem _ hz)), fun z hz => ?_, ?_, fun z hz => ?_, by rw [List.map_append, List.map_append, hsg, List.map_singleton, List.map_singleton, sy], (p8.set (by omega) (by omega)).mono (by omega), (k7.trans k8).set_new (by omega)⟩
    · rw [List.getElem?_set_ne (by omega)]; exact hl8
    · rcases List.mem_append.mp hz with hz | hz
      · exact tf z hz
      · rw [List.mem_singleton.mp hz]; exact ty
    · rw [List.append_assoc]
      exact ((hpm.append_left us).nodup_iff).mp hnd
    · rcases List.mem_append.mp hz with hz | hz
      · exact hus z hz
      · rw [List.mem_singleton.mp hz]; exact tle)
  obtain ⟨ls, fs, us, _, hf, _, hfl, _, tf, hnd, hus, hsg, hp', hK⟩ := hI
  have fnd : fs.Nodup := by
    have un : us.Nodup := (List.nodup_append.mp hnd).1
    have unm : (us.map (sgn 0)).Nodup := letters_nd hus un
    rw [← hsg] at unm
    exact List.Pairwise.of_map _ (fun _ _ hne e => hne (congrArg _ e)) unm
  exact ⟨L + 1, S5, fs, body_rt (seq_nx e0 (seq_nx hset (seq_nx hpar (seq_nx (for_ok (range_ok (acons_ok rfl rfl) z0 (by omega)) e5) (ret_ok rfl))))), by omega, by omega, hf, hfl, tf, fnd, hp'.mono (by omega), hK⟩
end
end K01

namespace K01
open PySem PySem.Spec PyProof.Rows L2 MP TL
open K06 (riP Cd cd_of cd_repr)
open K59 (Pr nm givs taks slt isL lets nm_ok sle sorted_strs)
/-! ### pairs of any words -/
theorem atI_mem {xs : List D} {v : Int} (h0 : 0 ≤ v) (h1 : v < (xs.length : Int)) : ∃ y, atI xs v = some y ∧ y ∈ xs := by
  have hv : v.toNat < xs.length := by omega
  refine ⟨xs[v.toNat], ?_, List.getElem_mem hv⟩
  unfold atI ixN
  rw [if_pos h0, if_pos h1]
  show xs[v.toNat]? = _
  rw [List.getElem?_eq_getElem hv]
theorem pick_word {gp : F} (Sp : SPick gp) {n : Int} {S : Sto} {j i q : Nat} {ys : List Str} (hp : PotAt j i n S) (hn : n < 10 ^ 29) (hq : S[q]? = some (.lst (ys.map D.str))) (hqj : q ≠ j) (hqi : q ≠ i) (hy0 : 0 < ys.length) (hy1 : ys.length ≤ 100) :
    ∃ (x : Str) (S2 : Sto), gp [.ref j, .ref q] S = .ok (.str x) S2 ∧ x ∈ ys ∧ PotAt j i (n + 1) S2 ∧ Keep2 j i S S2 := by
  obtain ⟨y, S2, e2, ⟨x, rfl, hx⟩, p2, k2⟩ := Sp n S j i (.ref q) (ys.length : Int) (fun y => ∃ e, y = .str e ∧ e ∈ ys) hp hn ((len_ref hq).trans (by rw [List.length_map])) (by omega) (by omega) fun S' v hk' v0 v1 => by
    obtain ⟨y, hy, hm⟩ := atI_mem (xs := ys.map D.str) v0 (by rw [List.length_map]; exact v1)
    obtain ⟨z, hz, rfl⟩ := List.mem_map.mp hm
    exact ⟨_, ix_ref (hk'.get hq hqj hqi) hy, z, rfl, hz⟩
  exact ⟨x, S2, e2, hx, p2, k2⟩
theorem pick_lst {gp : F} (Sp : SPick gp) {n : Int} {S : Sto} {j i : Nat} {L : List D} (hp : PotAt j i n S) (hn : n < 10 ^ 29) (h0 : 0 < L.length) (h1 : L.length ≤ 1000) :
    ∃ (y : D) (S2 : Sto), gp [.ref j, .lst L] S = .ok y S2 ∧ y ∈ L ∧ PotAt j i (n + 1) S2 ∧ Keep2 j i S S2 :=
  Sp n S j i (.lst L) (L.length : Int) (fun y => y ∈ L) hp hn rfl (by omega) (by omega) fun S' v hk' v0 v1 => atI_mem v0 v1
def enc (ks : List Pr) : List (D × D) := ks.map fun p => (pD p, D.bl true)
theorem look_mem {a b : Str} : ∀ {ks : List Pr}, (a, b) ∈ ks → (lookD true (enc ks) [.inr a, .inr b]).isSome = true
  | k :: ks, h => by
    show (if kOf true (pD k) = some [.inr a, .inr b] then some (D.bl true) else lookD true (enc ks) [.inr a, .inr b]).isSome = true
    by_cases e : kOf true (pD k) = some [.inr a, .inr b]
    · rw [if_pos e]; rfl
    · rw [if_neg e]
      rcases List.mem_cons.mp h with rfl | h
      · exact absurd rfl e
      · exact look_mem h
theorem put_enc (ks : List Pr) (a b : Str) : putDD true (enc ks) [.inr a, .inr b] (.bl true) = enc ks ∨ ((a, b) ∉ ks ∧ putDD true (enc ks) [.inr a, .inr b] (.bl true) = enc (ks ++ [(a, b)])) := by
  unfold putDD
  split
  · left
    unfold enc
    rw [List.map_map]
    refine List.map_congr_left fun p hp => ?_
    show (if kOf true (pD p) = some [.inr a, .inr b] then (pD p, D.bl true) else (pD p, D.bl true)) = _
    split <;> rfl
  · rename_i h
    refine .inr ⟨fun hm => h (look_mem hm), ?_⟩
    unfold enc
    rw [List.map_append]
    rfl
theorem srt_ps (ks : List Pr) (h : ks.length ≤ 1000) : srtOk (psD ks) = true := by
  unfold srtOk
  simp only [Bool.and_eq_true, List.all_eq_true, decide_eq_true_eq, Bool.or_eq_true]
  refine ⟨⟨⟨⟨fun x hx => ?_, fun x hx y hy => ?_⟩, .inl fun x hx => ?_⟩, fun x hx => ?_⟩, by rw [psD_len]; exact sz (by omega)⟩
  all_goals obtain ⟨a, _, rfl⟩ := List.mem_map.mp hx
  · rfl
  · obtain ⟨b, _, rfl⟩ := List.mem_map.mp hy
    rfl
  · rfl
  · simp [MP.encD, toPD, toPDs, pD, PyData.depth, PyData.depthAll]
theorem leD_pD (p q : Pr) : leD (pD p) (pD q) = leP p q := congrFun (congrFun le_encP p) q
theorem sort_ps (ks : List Pr) : (psD ks).mergeSort leD = psD (ks.mergeSort leP) := by
  have e := List.map_mergeSort (r := leP) (s := leD) (f := pD) (l := ks) (fun a _ b _ => (leD_pD a b).symm)
  exact e.symm
theorem rs_sort {ks : List Pr} (h : ks.Nodup) : rsP (ks.mergeSort leP) = true := by
  rw [rsP_eq]
  exact decide_eq_true (srtP_of (List.pairwise_mergeSort (le := leP) leP_trans leP_total _) ((List.mergeSort_perm ks leP).nodup_iff.mpr h) fun k => Iff.rfl)
def SLPairs (g : F) : Prop := ∀ (n : Int) (S : Sto) (j i q : Nat) (ys : List Str) (size : Int), PotAt j i n S → n < 10 ^ 27 → S[q]? = some (.lst (ys.map D.str)) → q ≠ j → q ≠ i → 0 < ys.length → ys.length ≤ 100 → (∀ y ∈ ys, nm y = true) → 0 ≤ size → size ≤ 13 →
  ∃ (ps : List Pr) (S' : Sto), g [.ref j, .ref q, .int size] S = .ok (.tup (psD ps)) S' ∧ ps.length ≤ 13 ∧ (∀ p ∈ ps, nmP p) ∧ rsP ps = true ∧ PotAt j i (n + 26) S' ∧ Keep2 j i S S'
section
variable {P : Program} {w : World} {K : PySem.W.Frag} {mg : Str → Option Value} {base : Heap}
theorem ok_lpairs (T : T01 K mg) : ∃ g, FnL P w K mg base 4 T.f__law_pairs T.fd__law_pairs ["_law_pot_here", "_law_pool", "_law_size"] g ∧ SLPairs g := by
  obtain ⟨gp, Fn__law_pick, Sp⟩ := ok_pick (P := P) (w := w) (base := base) T
  refine ⟨_, Fun.okL T.F__law_pairs sc__law_pairs fun cdv A outer s H E hr =>
(pssl_cons (psl_set (i := 3) sc__law_pairs.nd pel_dctNT)
  (pssl_cons (psl_for (passes_of rfl) rfl (pil_range1 rfl T.n_range (pal_cons (pel_var (i := 2)) pal_nil)) (pgl_name (i := 4) sc__law_pairs.nd) (pssl_one (psl_sub (psetl_dct hr.units) (pel_var (i := 3)) (pel_tup (pal_cons (pel_call Fn__law_pick (hr.mono (by decide)) rfl T.mg__law_pick T.F__law_pick.kp T.b__law_pick dfl_nil (pal_cons (pel_var (i := 0)) (pal_cons (pel_var (i := 1)) pal_nil))) (pal_cons (pel_call Fn__law_pick (hr.mono (by decide)) rfl T.mg__law_pick T.F__law_pick.kp T.b__law_pick dfl_nil (pal_cons (pel_var (i := 0)) (pal_cons (pel_var (i := 1)) pal_nil))) pal_nil))) pel_bl)))
  (pssl_one (psl_ret (pel_callTy (cl_tuple) rfl T.n_tuple (by decide +kernel) (pal_cons (pel_callB (cl_sortedD rfl hr.units) rfl T.n_sorted (by decide +kernel) (pal_cons (pel_var (i := 3)) pal_nil)) pal_nil)))))), ?_⟩
  intro n S j i q ys size hp hn hq hqj hqi hy0 hy1 hT s0 s13
  have bb : (10 : Int) ^ 27 + 100 < 10 ^ 29 := by decide +kernel
  obtain ⟨hjl, hil⟩ := hp.lt
  have hql := (List.getElem?_eq_some_iff.mp hq).1
  have hD : (S ++ [O.dct true (enc [])])[S.length]? = some (.dct true (enc [])) := last_at
  have p0 : PotAt j i n (S ++ [O.dct true (enc [])]) := hp.push
  have K0 : Keep2 j i S (S ++ [O.dct true (enc [])]) := .push
  obtain ⟨S5, e5, hI⟩ := for_invB (chk := fun _ => True) (g := gtName 4) (N := size.toNat) (ρ0 := [some (.ref j), some (.ref q), some (.int size), some (.ref S.length), none])
    (lb := lStS stDct (lVar 3) (lTup (aCons (lCall 2 gp [] (aCons (lVar 0) (aCons (lVar 1) aNil))) (aCons (lCall 2 gp [] (aCons (lVar 0) (aCons (lVar 1) aNil))) aNil))) (lC (.bl true)))
    (I := fun k S' => ∃ ks : List Pr, S'[S.length]? = some (.dct true (enc ks)) ∧ ks.length ≤ k ∧ (∀ p ∈ ks, nmP p) ∧ ks.Nodup ∧ PotAt j i (n + 2 * k) S' ∧ Keep2 j i S S') (fun _ => trivial)
    ((List.range size.toNat).map fun (i : Nat) => D.int (i : Int)) 0 (S ++ [O.dct true (enc [])]) (by simp) ⟨[], hD, Nat.le_refl _, by simp, .nil, p0.mono (by omega), K0⟩ (by
    intro d hd k S' hk ⟨ks, hD, hkl, hkT, hnd, hp', hK⟩
    obtain ⟨a, S6, e6, ha, p6, k6⟩ := pick_word Sp hp' (by omega) (hK.get hq hqj hqi) hqj hqi hy0 hy1
    obtain ⟨b, S7, e7, hb, p7, k7⟩ := pick_word Sp p6 (by omega) ((hK.trans k6).get hq hqj hqi) hqj hqi hy0 hy1
    have hD7 := (k6.trans k7).get hD (by omega) (by omega)
    obtain ⟨ks', ek, hl', hT', hn'⟩ : ∃ ks' : List Pr, putDD true (enc ks) [.inr a, .inr b] (.bl true) = enc ks' ∧ ks'.length ≤ k + 1 ∧ (∀ p ∈ ks', nmP p) ∧ ks'.Nodup := by
      rcases put_enc ks a b with e | ⟨hm, e⟩
      · exact ⟨ks, e, by omega, hkT, hnd⟩
      · refine ⟨_, e, by simp; omega, fun p hp => ?_, ?_⟩
        · rcases List.mem_append.mp hp with hp | hp
          · exact hkT p hp
          · rw [List.mem_singleton.mp hp]; exact ⟨hT a ha, hT b hb⟩
        · exact List.nodup_append.mpr ⟨hnd, by simp, fun x hx y hy e => hm (by rw [List.mem_singleton.mp hy] at e; rw [← e]; exact hx)⟩
    have hst : stDct S7 (.ref S.length) (.tup [.str a, .str b]) (.bl true) = some (S7.set S.length (.dct true (enc ks'))) := by
      unfold stDct
      dsimp only
      rw [hD7]
      dsimp only
      rw [if_pos (by unfold enc; rw [List.length_map]; exact Nat.lt_of_le_of_lt (show ks.length ≤ 100 by omega) (by decide)), ← ek]
      rfl
    obtain ⟨x, hx, rfl⟩ := List.mem_map.mp hd
    exact ⟨_, _, _, rfl, stS_ok rfl rfl (tup_ok (acons_ok (call_ok (acons_ok rfl (acons_ok rfl rfl)) rfl e6) (acons_ok (call_ok (acons_ok rfl (acons_ok rfl rfl)) rfl e7) rfl)) (by simp)) hst, rfl, ks', set_self hD7, hl', hT', hn', (p7.set (by omega) (by omega)).mono (by omega), ((hK.trans k6).trans k7).set_new (Nat.le_refl _)⟩)
  obtain ⟨ks, hD5, hkl, hkT, hnd, hp5, hK5⟩ := hI
  have hv : vw S5 (.ref S.length) = .dct true (enc ks) := by unfold vw; dsimp only; rw [hD5]
  have hkeys : (enc ks).map (·.1) = psD ks := by unfold enc psD; rw [List.map_map]; rfl
  have hsort : gSortedD S5 [.ref S.length] = some (.lst (psD (ks.mergeSort leP))) := by
    unfold gSortedD
    dsimp only
    rw [hv]
    dsimp only
    rw [hkeys, if_pos (srt_ps ks (by omega)), sort_ps]
  have hpm := List.mergeSort_perm ks leP
  exact ⟨ks.mergeSort leP, S5, body_rt (seq_nx (set_ok rfl) (seq_nx (for_ok (range_ok (acons_ok rfl rfl) s0 (by omega)) e5) (ret_ok (callb_ok (acons_ok (callb_ok (acons_ok rfl rfl) hsort) rfl) rfl)))), by rw [hpm.length_eq]; omega, fun p hp => hkT p (hpm.mem_iff.mp hp), rs_sort hnd, hp5.mono (by omega), hK5⟩
end
end K01

namespace K01
open PySem PySem.Spec PyProof.Rows L2 MP TL
open K06 (riP Cd cd_of cd_repr pair_rise)
open K59 (Pr nm givs taks slt isL lets nm_ok sle sorted_strs)
/-! ### the parts of a circle -/
def hsOk (h : Str) : Prop := h = Str.empty ∨ nm h = true
def YrsOk (ys : List (List Pr)) : Prop := ys.length ≤ 10 ∧ ∀ y ∈ ys, y.length ≤ 26 ∧ (∀ p ∈ y, nmP p) ∧ rsP y = true
def MbsOk (ms : List Pr) : Prop := ms.length ≤ 24 ∧ (∀ p ∈ ms, nm p.1 = true ∧ hsOk p.2) ∧ riseS (givs ms) = true
def yrD (y : List Pr) : D := .tup (psD y)
def SParts (g : F) : Prop := ∀ (n : Int) (S : Sto) (j i : Nat) (most : Int), PotAt j i n S → n < 10 ^ 26 → 0 ≤ most → most ≤ 24 → ∃ (ms bs : List Pr) (ys : List (List Pr)) (gap : Int) (d : D) (S' : Sto),
  g [.ref j, .int most] S = .ok (.tup [.tup (psD ms), .tup (psD bs), .tup (ys.map yrD), .int gap, d]) S' ∧ MbsOk ms ∧ bs.length ≤ 13 ∧ (∀ p ∈ bs, nmP p) ∧ rsP bs = true ∧ YrsOk ys ∧ 0 ≤ gap ∧ gap < 10 ^ 30 ∧ PotAt j i (n + 2000) S' ∧ Keep2 j i S S'
theorem cut_lo (ys : List Str) : MP.cutD (ys.map D.str) (some 2) none = (ys.drop 2).map D.str := by
  unfold MP.cutD
  rw [sIx_pos (by decide), HT.sIx_none, List.take_of_length_le (by rw [List.length_drop]; exact Nat.le_refl _), List.map_drop]
  show List.drop (min 2 (ys.map D.str).length) (ys.map D.str) = List.drop 2 (ys.map D.str)
  by_cases q : 2 ≤ (ys.map D.str).length
  · rw [Nat.min_eq_left q]
  · rw [Nat.min_eq_right (by omega), List.drop_of_length_le (Nat.le_refl _), List.drop_of_length_le (by omega)]
theorem cut_hi (ys : List Str) : MP.cutD (ys.map D.str) none (some 2) = (ys.take 2).map D.str := by
  unfold MP.cutD
  rw [sIx_pos (by decide), HT.sIx_none, List.drop_zero, Nat.sub_zero, List.map_take, List.take_eq_take_iff]
  show min (min 2 _) _ = min 2 _
  omega
theorem mem_sort_rise {ms : List Pr} (h : (givs ms).Nodup) : riseS (givs (ms.mergeSort leP)) = true := by
  have hpm := List.mergeSort_perm ms leP
  have hp : (ms.mergeSort leP).Pairwise fun a b => leP a b = true := List.pairwise_mergeSort (le := leP) leP_trans leP_total _
  have hn : (givs (ms.mergeSort leP)).Nodup := (hpm.map (fun p : Pr => p.1)).nodup_iff.mpr h
  refine (adj_pw (r := slt) (fun a b c => K59.slt_trans) _).mpr ?_
  unfold givs at hn ⊢
  rw [List.pairwise_map]
  have hn' : (ms.mergeSort leP).Pairwise fun a b => a.1 ≠ b.1 := List.pairwise_map.mp hn
  refine (List.pairwise_and_iff.mpr ⟨hp, hn'⟩).imp fun {a b} q => ?_
  rcases leP_iff.mp q.1 with e | z
  · exact absurd (congrArg Prod.fst e) q.2
  · rcases ltP_iff.mp z with ⟨_, z2⟩ | ⟨z1, _⟩
    · exact decide_eq_true z2
    · exact absurd z1 q.2
theorem last_ix {S : Sto} {q : Nat} {ys : List Str} (hq : S[q]? = some (.lst (ys.map D.str))) (h0 : 0 < ys.length) : ∃ y ∈ ys, gIx S (.ref q) (.int (-1)) = some (.str y) := by
  have hl : ys.length - 1 < ys.length := by omega
  refine ⟨ys[ys.length - 1], List.getElem_mem hl, ix_ref hq ?_⟩
  unfold atI ixN
  rw [if_neg (by decide), List.length_map, if_pos (by omega)]
  have e : ((-1 : Int) + (ys.length : Int)).toNat = ys.length - 1 := by omega
  show (ys.map D.str)[((-1 : Int) + (ys.length : Int)).toNat]? = _
  rw [e, List.getElem?_map, List.getElem?_eq_getElem hl]
  rfl
section
variable {P : Program} {w : World} {K : PySem.W.Frag} {mg : Str → Option Value} {base : Heap}
theorem ok_parts (T : T01 K mg) : ∃ g, FnL P w K mg base 5 T.f__law_parts T.fd__law_parts ["_law_pot_here", "_law_most"] g ∧ SParts g := by
  obtain ⟨gd, Fn__law_draw, Sd⟩ := ok_draw (P := P) (w := w) (base := base) T
  obtain ⟨gk, Fn__law_pick, Sk⟩ := ok_pick (P := P) (w := w) (base := base) T
  obtain ⟨gw, Fn__law_words, Sw⟩ := ok_words (P := P) (w := w) (base := base) T
  obtain ⟨gp, Fn__law_pairs, Sp⟩ := ok_lpairs (P := P) (w := w) (base := base) T
  obtain ⟨gt, Fn__law_turned_round, St⟩ := ok_turned (P := P) (w := w) (base := base) T
  refine ⟨_, Fun.okL T.F__law_parts sc__law_parts fun cdv A outer s H E hr =>
(pssl_cons (psl_set (i := 2) sc__law_parts.nd (pel_call Fn__law_words (hr.mono (by decide)) rfl T.mg__law_words T.F__law_words.kp T.b__law_words dfl_nil (pal_cons (pel_var (i := 0)) (pal_cons (pel_op opl_add2 pel_int (pel_call Fn__law_draw (hr.mono (by decide)) rfl T.mg__law_draw T.F__law_draw.kp T.b__law_draw dfl_nil (pal_cons (pel_var (i := 0)) (pal_cons (pel_op opl_add2 (pel_var (i := 1)) pel_int) pal_nil)))) pal_nil))))
  (pssl_cons (psl_par (i := 3) (j := 4) rfl sc__law_parts.nd (pal_cons (pel_slice sll_any (pel_var (i := 2)) (pol_some pel_int) pol_none) (pal_cons (pel_slice sll_any (pel_var (i := 2)) pol_none (pol_some pel_int)) pal_nil)))
  (pssl_cons (psl_set (i := 5) sc__law_parts.nd (pel_lst (pal_cons pel_str (pal_cons pel_str (pal_cons pel_str (pal_cons (pel_ix ixl_seq (pel_var (i := 4)) pel_int) (pal_cons (pel_ix ixl_seq (pel_var (i := 2)) (pel_un unl_neg pel_int)) (pal_cons pel_str pal_nil))))))))
  (pssl_cons (psl_set (i := 6) sc__law_parts.nd (pel_callTy (cl_tuple) rfl T.n_tuple (by decide +kernel) (pal_cons (pel_callB (cl_sorted hr.units) rfl T.n_sorted (by decide +kernel) (pal_cons (pel_lc (own := [("_law_one", 7)]) rfl sc__law_parts.nd (pil_val (pel_var (i := 3))) (blkOk_by (N := N__law_parts) (sc := defScope s__law_parts) (by decide +kernel)) (fun _ _ _ _ _ => (pgl_name (i := 7) sc__law_parts.nd)) (fun _ _ _ _ _ => ptsl_nil) (fun _ _ _ _ _ => (pel_tup (pal_cons (pel_var (i := 7)) (pal_cons (pel_call Fn__law_pick (hr.mono (by decide)) rfl T.mg__law_pick T.F__law_pick.kp T.b__law_pick dfl_nil (pal_cons (pel_var (i := 0)) (pal_cons (pel_var (i := 5)) pal_nil))) pal_nil))))) pal_nil)) pal_nil)))
  (pssl_cons (psl_par (i := 8) (j := 9) rfl sc__law_parts.nd (pal_cons (pel_call Fn__law_pairs (hr.mono (by decide)) rfl T.mg__law_pairs T.F__law_pairs.kp T.b__law_pairs dfl_nil (pal_cons (pel_var (i := 0)) (pal_cons (pel_var (i := 2)) (pal_cons (pel_call Fn__law_draw (hr.mono (by decide)) rfl T.mg__law_draw T.F__law_draw.kp T.b__law_draw dfl_nil (pal_cons (pel_var (i := 0)) (pal_cons (pel_ix ixl_seq (pel_lst (pal_cons pel_int (pal_cons pel_int (pal_cons pel_int pal_nil)))) (pel_call Fn__law_draw (hr.mono (by decide)) rfl T.mg__law_draw T.F__law_draw.kp T.b__law_draw dfl_nil (pal_cons (pel_var (i := 0)) (pal_cons pel_int pal_nil)))) pal_nil))) pal_nil)))) (pal_cons (pel_lstN pal_nil) pal_nil)))
  (pssl_cons (psl_for (passes_of rfl) rfl (pil_range1 rfl T.n_range (pal_cons (pel_call Fn__law_draw (hr.mono (by decide)) rfl T.mg__law_draw T.F__law_draw.kp T.b__law_draw dfl_nil (pal_cons (pel_var (i := 0)) (pal_cons (pel_ix ixl_seq (pel_lst (pal_cons pel_int (pal_cons pel_int (pal_cons pel_int pal_nil)))) (pel_call Fn__law_draw (hr.mono (by decide)) rfl T.mg__law_draw T.F__law_draw.kp T.b__law_draw dfl_nil (pal_cons (pel_var (i := 0)) (pal_cons pel_int pal_nil)))) pal_nil))) pal_nil)) (pgl_name (i := 10) sc__law_parts.nd) (pssl_one (psl_expr (pel_append (pel_var (i := 9)) (pel_ix ixl_seq (pel_lst (pal_cons (pel_call Fn__law_turned_round (hr.mono (by decide)) rfl T.mg__law_turned_round T.F__law_turned_round.kp T.b__law_turned_round dfl_nil (pal_cons (pel_var (i := 0)) (pal_cons (pel_var (i := 3)) pal_nil))) (pal_cons (pel_call Fn__law_pairs (hr.mono (by decide)) rfl T.mg__law_pairs T.F__law_pairs.kp T.b__law_pairs dfl_nil (pal_cons (pel_var (i := 0)) (pal_cons (pel_var (i := 2)) (pal_cons (pel_call Fn__law_draw (hr.mono (by decide)) rfl T.mg__law_draw T.F__law_draw.kp T.b__law_draw dfl_nil (pal_cons (pel_var (i := 0)) (pal_cons pel_int pal_nil))) pal_nil)))) pal_nil))) (pel_op opl_div (pel_call Fn__law_draw (hr.mono (by decide)) rfl T.mg__law_draw T.F__law_draw.kp T.b__law_draw dfl_nil (pal_cons (pel_var (i := 0)) (pal_cons pel_int pal_nil))) pel_int))))))
  (pssl_cons (psl_set (i := 11) sc__law_parts.nd (pel_ix ixl_seq (pel_lst (pal_cons pel_int (pal_cons pel_int (pal_cons pel_int (pal_cons pel_int (pal_cons (pel_callB (cl_len) rfl T.n_len (by decide +kernel) (pal_cons (pel_var (i := 9)) pal_nil)) (pal_cons (pel_op opl_add2 (pel_callB (cl_len) rfl T.n_len (by decide +kernel) (pal_cons (pel_var (i := 9)) pal_nil)) pel_int) (pal_cons (pel_call Fn__law_draw (hr.mono (by decide)) rfl T.mg__law_draw T.F__law_draw.kp T.b__law_draw dfl_nil (pal_cons (pel_var (i := 0)) (pal_cons (pel_op opl_pow pel_int pel_int) pal_nil))) pal_nil)))))))) (pel_call Fn__law_draw (hr.mono (by decide)) rfl T.mg__law_draw T.F__law_draw.kp T.b__law_draw dfl_nil (pal_cons (pel_var (i := 0)) (pal_cons pel_int pal_nil)))))
  (pssl_one (psl_ret (pel_tup (pal_cons (pel_var (i := 6)) (pal_cons (pel_var (i := 8)) (pal_cons (pel_callTy (cl_tuple) rfl T.n_tuple (by decide +kernel) (pal_cons (pel_var (i := 9)) pal_nil)) (pal_cons (pel_var (i := 11)) (pal_cons (pel_var (i := 4)) pal_nil))))))))))))))), ?_⟩
  intro n S j i most hp hn m0 m24
  have bb : (10 : Int) ^ 26 + 10000 < 10 ^ 27 ∧ (10 : Int) ^ 27 < 10 ^ 28 ∧ (10 : Int) ^ 28 + 10000 < 10 ^ 29 ∧ (1000 : Int) < 10 ^ 200 ∧ (10 : Int) ^ 29 < 10 ^ 200 ∧ (0 : Int) < 10 ^ 29 ∧ (10 : Int) ^ 29 < 10 ^ 30 := by decide +kernel
  obtain ⟨bb1, bb2, bb3, bb4, bb5, bb6, bb7⟩ := bb
  -- the words
  obtain ⟨u, S1, e1, u0, u1, p1, k1⟩ := Sd n S j i (most + 1) hp (by omega) (by omega) (by omega)
  obtain ⟨q, S2, ws, e2, hqj, hqi, hq2, hwl, hwn, hwd, p2, k2⟩ := Sw (n + 1) S1 j i (2 + u) p1 (by omega) (by omega) (by omega)
  have hw2 : 2 ≤ ws.length := by omega
  have hw26 : ws.length ≤ 26 := by omega
  have h2 := (k1.trans k2)
  have hin : (ws.drop 2).length ≤ 24 := by rw [List.length_drop]; omega
  have hinn : ∀ y ∈ ws.drop 2, nm y = true := fun y hy => hwn y (List.mem_of_mem_drop hy)
  have hind : (ws.drop 2).Nodup := (List.drop_sublist 2 ws).nodup hwd
  obtain ⟨inn, hinner⟩ : ∃ inn, inn = ws.drop 2 := ⟨_, rfl⟩
  rw [← hinner] at hin hinn hind
  obtain ⟨st, hstr⟩ : ∃ st, st = ws.take 2 := ⟨_, rfl⟩
  have hstl : st.length = 2 := by rw [hstr, List.length_take]; omega
  have hpar : lPar 3 4 (aCons (lSlice gSlice (lVar 2) (oSome (lC (.int 2))) oNone) (aCons (lSlice gSlice (lVar 2) oNone (oSome (lC (.int 2)))) aNil)) [some (.ref j), some (.int most), some (.ref q), none, none, none, none, none, none, none, none, none] S2 = .ok (.nx [some (.ref j), some (.int most), some (.ref q), some (.lst (inn.map D.str)), some (.lst (st.map D.str)), none, none, none, none, none, none, none]) S2 := by
    refine par_ok (acons_ok (slice_ok rfl (osome_ok rfl) rfl ?_) (acons_ok (slice_ok rfl rfl (osome_ok rfl) ?_) rfl))
    · unfold gSlice
      rw [vw_ref hq2]
      show some (D.lst (MP.cutD (ws.map D.str) (some 2) none)) = _
      rw [cut_lo, hinner]
    · unfold gSlice
      rw [vw_ref hq2]
      show some (D.lst (MP.cutD (ws.map D.str) none (some 2))) = _
      rw [cut_hi, hstr]
  -- the houses
  obtain ⟨wl, hwlm, hwlix⟩ := last_ix hq2 (by omega)
  obtain ⟨s0, hs0m, hs0ix⟩ : ∃ s0 ∈ ws, gIx S2 (.lst (st.map D.str)) (.int 0) = some (.str s0) := by
    obtain ⟨y, hy, hm⟩ := atI_mem (xs := st.map D.str) (v := 0) (by omega) (by rw [List.length_map]; omega)
    obtain ⟨z, hz, rfl⟩ := List.mem_map.mp hm
    exact ⟨z, List.mem_of_mem_take (by rw [← hstr]; exact hz), hy⟩
  obtain ⟨hs, hhs⟩ : ∃ hs : List Str, hs = ([("" : Str), ("" : Str), ("" : Str), s0, wl, ("h" : Str)] : List Str) := ⟨_, rfl⟩
  have hsok : ∀ h ∈ hs, hsOk h := fun h hh => by
    rw [hhs] at hh
    simp only [List.mem_cons, List.not_mem_nil, or_false] at hh
    rcases hh with rfl | rfl | rfl | rfl | rfl | rfl
    · exact .inl rfl
    · exact .inl rfl
    · exact .inl rfl
    · exact .inr (hwn _ hs0m)
    · exact .inr (hwn _ hwlm)
    · exact .inr (by decide)
  have hsl : hs.length = 6 := by rw [hhs]; rfl
  have hset5 : lSet 5 (lLst (aCons (lC (.str "")) (aCons (lC (.str "")) (aCons (lC (.str "")) (aCons (lBin gIx (lVar 4) (lC (.int 0))) (aCons (lBin gIx (lVar 2) (lUn gNeg (lC (.int 1)))) (aCons (lC (.str "h")) aNil))))))) [some (.ref j), some (.int most), some (.ref q), some (.lst (inn.map D.str)), some (.lst (st.map D.str)), none, none, none, none, none, none, none] S2 = .ok (.nx [some (.ref j), some (.int most), some (.ref q), some (.lst (inn.map D.str)), some (.lst (st.map D.str)), some (.lst (hs.map D.str)), none, none, none, none, none, none]) S2 := by
    rw [hhs]
    exact set_ok (lst_ok (acons_ok rfl (acons_ok rfl (acons_ok rfl (acons_ok (bin_ok rfl rfl hs0ix) (acons_ok (bin_ok rfl (un_ok rfl rfl) hwlix) (acons_ok rfl rfl)))))) (by simp))
  -- the members
  have mem : ∀ (xs : List Str) (n : Int) (S : Sto), (∀ x ∈ xs, nm x = true) → PotAt j i n S → n + xs.length < 10 ^ 29 → ∃ (ps : List Pr) (S' : Sto), compG (fun _ => True) (gtName 7) tYesL (lTup (aCons (lVar 7) (aCons (lCall 2 gk [] (aCons (lVar 0) (aCons (lVar 5) aNil))) aNil))) [some (.ref j), some (.int most), some (.ref q), some (.lst (inn.map D.str)), some (.lst (st.map D.str)), some (.lst (hs.map D.str)), none, none, none, none, none, none] (xs.map D.str) S = .ok (psD ps) S' ∧ givs ps = xs ∧ (∀ p ∈ ps, nm p.1 = true ∧ hsOk p.2) ∧ PotAt j i (n + xs.length) S' ∧ Keep2 j i S S' := by
    intro xs
    induction xs with
    | nil => exact fun n S _ hp hn => ⟨[], S, comp_end trivial, rfl, by simp, hp.mono (by simp), .refl⟩
    | cons x xs ih =>
      intro n S hx hp hn
      simp only [List.length_cons] at hn
      obtain ⟨y, S3, e3, hy, p3, k3⟩ := pick_lst Sk hp (by omega) (L := hs.map D.str) (by rw [List.length_map]; omega) (by rw [List.length_map]; omega)
      obtain ⟨h, hh, rfl⟩ := List.mem_map.mp hy
      obtain ⟨ps, S4, e4, g4, n4, p4, k4⟩ := ih (n + 1) S3 (fun z hz => hx z (List.mem_cons_of_mem _ hz)) p3 (by omega)
      refine ⟨(x, h) :: ps, S4, comp_go trivial rfl (tup_ok (acons_ok rfl (acons_ok (call_ok (acons_ok rfl (acons_ok rfl rfl)) rfl e3) rfl)) (by simp)) e4, by show x :: givs ps = _; rw [g4], fun p hp => ?_, p4.mono (by simp only [List.length_cons]; omega), k3.trans k4⟩
      rcases List.mem_cons.mp hp with rfl | hp
      · exact ⟨hx x List.mem_cons_self, hsok h hh⟩
      · exact n4 p hp
  obtain ⟨ms, S3, e3, g3, n3, p3, k3⟩ := mem inn (n + 1 + 100) S2 hinn p2 (by omega)
  have hml : ms.length = inn.length := by
    have z := congrArg List.length g3
    unfold givs at z
    rw [List.length_map] at z
    exact z
  have hsort : gSorted S3 [.lst (psD ms)] = some (.lst (psD (ms.mergeSort leP))) := by
    unfold gSorted
    dsimp only [vw]
    rw [if_pos (srt_ps ms (by omega)), sort_ps]
  have hpm := List.mergeSort_perm ms leP
  have hset6 : lSet 6 (lCallB gTuple (aCons (lCallB gSorted (aCons (lComp (lIter (lVar 3)) [7] (gtName 7) tYesL (lTup (aCons (lVar 7) (aCons (lCall 2 gk [] (aCons (lVar 0) (aCons (lVar 5) aNil))) aNil)))) aNil)) aNil)) [some (.ref j), some (.int most), some (.ref q), some (.lst (inn.map D.str)), some (.lst (st.map D.str)), some (.lst (hs.map D.str)), none, none, none, none, none, none] S2 = .ok (.nx [some (.ref j), some (.int most), some (.ref q), some (.lst (inn.map D.str)), some (.lst (st.map D.str)), some (.lst (hs.map D.str)), some (.tup (psD (ms.mergeSort leP))), none, none, none, none, none]) S3 :=
    set_ok (callb_ok (acons_ok (callb_ok (acons_ok (comp_okL (iter_ok rfl rfl) (by rw [List.length_map]; omega) e3) rfl) hsort) rfl) rfl)
  have hq3 := k3.get hq2 hqj hqi
  -- the bars
  obtain ⟨v, S4, e4, v0, v1, p4, k4⟩ := Sd (n + 1 + 100 + inn.length) S3 j i 3 p3 (by omega) (by decide) (by omega)
  obtain ⟨z, hz, z0, z14⟩ : ∃ z : Int, gIx S4 (.lst [.int 1, .int 4, .int 14]) (.int v) = some (.int z) ∧ 0 < z ∧ z ≤ 14 := by
    obtain ⟨y, hy, hm⟩ := atI_mem (xs := [D.int 1, .int 4, .int 14]) (v := v) v0 (by simpa using v1)
    simp only [List.mem_cons, List.not_mem_nil, or_false] at hm
    rcases hm with rfl | rfl | rfl
    · exact ⟨_, hy, by decide, by decide⟩
    · exact ⟨_, hy, by decide, by decide⟩
    · exact ⟨_, hy, by decide, by decide⟩
  obtain ⟨sz_, S5, e5, sz0, sz1, p5, k5⟩ := Sd (n + 1 + 100 + inn.length + 1) S4 j i z p4 (by omega) (by omega) (by omega)
  obtain ⟨bs, S6, e6, bl, bn, br, p6, k6⟩ := Sp (n + 1 + 100 + inn.length + 1 + 1) S5 j i q ws sz_ p5 (by omega) ((k4.trans k5).get hq3 hqj hqi) hqj hqi (by omega) (by omega) hwn sz0 (by omega)
  have hpar2 : lPar 8 9 (aCons (lCall 3 gp [] (aCons (lVar 0) (aCons (lVar 2) (aCons (lCall 2 gd [] (aCons (lVar 0) (aCons (lBin gIx (lLst (aCons (lC (.int 1)) (aCons (lC (.int 4)) (aCons (lC (.int 14)) aNil)))) (lCall 2 gd [] (aCons (lVar 0) (aCons (lC (.int 3)) aNil)))) aNil))) aNil)))) (aCons (lLstN aNil) aNil)) [some (.ref j), some (.int most), some (.ref q), some (.lst (inn.map D.str)), some (.lst (st.map D.str)), some (.lst (hs.map D.str)), some (.tup (psD (ms.mergeSort leP))), none, none, none, none, none] S3 = .ok (.nx [some (.ref j), some (.int most), some (.ref q), some (.lst (inn.map D.str)), some (.lst (st.map D.str)), some (.lst (hs.map D.str)), some (.tup (psD (ms.mergeSort leP))), none, some (.tup (psD bs)), some (.ref S6.length), none, none]) (S6 ++ [.lst []]) :=
    par_ok (acons_ok (call_ok (acons_ok rfl (acons_ok rfl (acons_ok (call_ok (acons_ok rfl (acons_ok (bin_ok (lst_ok (acons_ok rfl (acons_ok rfl (acons_ok rfl rfl))) (by simp)) (call_ok (acons_ok rfl (acons_ok rfl rfl)) rfl e4) hz) rfl)) rfl e5) rfl))) rfl e6) (acons_ok (lstN_ok (t := aNil) rfl (Nat.zero_le _)) rfl))
  have K6 : Keep2 j i S S6 := (((h2.trans k3).trans k4).trans k5).trans k6
  have hq7 : (S6 ++ [O.lst []])[q]? = some (.lst (ws.map D.str)) := (((((k3.trans k4).trans k5).trans k6).trans .push)).get hq2 hqj hqi
  have hl7 : (S6 ++ [O.lst []])[S6.length]? = some (.lst (([] : List (List Pr)).map yrD)) := last_at
  have p7 : PotAt j i (n + 1 + 100 + inn.length + 1 + 1 + 26) (S6 ++ [O.lst []]) := p6.push
  have K7 : Keep2 j i S (S6 ++ [O.lst []]) := K6.trans .push
  have hpl := p6.lt
  have hql6 : q < S6.length := by
    have z1 := (((k3.trans k4).trans k5).trans k6).1
    have z2 := (List.getElem?_eq_some_iff.mp hq2).1
    omega
  obtain ⟨LL, hLL⟩ : ∃ LL, LL = S6.length := ⟨_, rfl⟩
  rw [← hLL] at hl7 hpar2
  have hLq : LL ≠ q := by omega
  have hLj : LL ≠ j := by omega
  have hLi : LL ≠ i := by omega
  have hSL : S.length ≤ LL := by have := K6.1; omega
  generalize S6 ++ [O.lst []] = S7 at hpar2 hq7 hl7 p7 K7
  -- the years
  obtain ⟨v2, S8, e8, w0, w1, p8, k8⟩ := Sd (n + 1 + 100 + inn.length + 1 + 1 + 26) S7 j i 3 p7 (by omega) (by decide) (by omega)
  obtain ⟨z2, hz2, z20, z211⟩ : ∃ z : Int, gIx S8 (.lst [.int 2, .int 4, .int 11]) (.int v2) = some (.int z) ∧ 0 < z ∧ z ≤ 11 := by
    obtain ⟨y, hy, hm⟩ := atI_mem (xs := [D.int 2, .int 4, .int 11]) (v := v2) w0 (by simpa using w1)
    simp only [List.mem_cons, List.not_mem_nil, or_false] at hm
    rcases hm with rfl | rfl | rfl
    · exact ⟨_, hy, by decide, by decide⟩
    · exact ⟨_, hy, by decide, by decide⟩
    · exact ⟨_, hy, by decide, by decide⟩
  obtain ⟨yc, S9, e9, yc0, yc1, p9, k9⟩ := Sd (n + 1 + 100 + inn.length + 1 + 1 + 26 + 1) S8 j i z2 p8 (by omega) (by omega) (by omega)
  have hra : lRange1 (aCons (lCall 2 gd [] (aCons (lVar 0) (aCons (lBin gIx (lLst (aCons (lC (.int 2)) (aCons (lC (.int 4)) (aCons (lC (.int 11)) aNil)))) (lCall 2 gd [] (aCons (lVar 0) (aCons (lC (.int 3)) aNil)))) aNil))) aNil) [some (.ref j), some (.int most), some (.ref q), some (.lst (inn.map D.str)), some (.lst (st.map D.str)), some (.lst (hs.map D.str)), some (.tup (psD (ms.mergeSort leP))), none, some (.tup (psD bs)), some (.ref LL), none, none] S7 = .ok ⟨(List.range yc.toNat).map fun (i : Nat) => .int (i : Int), fun _ => True⟩ S9 :=
    range_ok (acons_ok (call_ok (acons_ok rfl (acons_ok (bin_ok (lst_ok (acons_ok rfl (acons_ok rfl (acons_ok rfl rfl))) (by simp)) (call_ok (acons_ok rfl (acons_ok rfl rfl)) rfl e8) hz2) rfl)) rfl e9) rfl) yc0 (by omega)
  obtain ⟨n9, hn9⟩ : ∃ n9 : Int, n9 = n + 1 + 100 + inn.length + 1 + 1 + 26 + 1 + 1 := ⟨_, rfl⟩
  have hn9' : n9 ≤ n + 200 := by omega
  rw [show n + 1 + 100 + (inn.length : Int) + 1 + 1 + 26 + 1 + 1 = n9 from hn9.symm] at p9
  have K9 := (K7.trans k8).trans k9
  have hq9 := (k8.trans k9).get hq7 hqj hqi
  have hl9 := (k8.trans k9).get hl7 hLj hLi
  obtain ⟨S10, e10, hI⟩ := for_invB (chk := fun _ => True) (g := gtName 10) (N := yc.toNat) (ρ0 := [some (.ref j), some (.int most), some (.ref q), some (.lst (inn.map D.str)), some (.lst (st.map D.str)), some (.lst (hs.map D.str)), some (.tup (psD (ms.mergeSort leP))), none, some (.tup (psD bs)), some (.ref LL), none, none])
    (lb := lExpr (lBM "list" stApp (lVar 9) (aCons (lBin gIx (lLst (aCons (lCall 2 gt [] (aCons (lVar 0) (aCons (lVar 3) aNil))) (aCons (lCall 3 gp [] (aCons (lVar 0) (aCons (lVar 2) (aCons (lCall 2 gd [] (aCons (lVar 0) (aCons (lC (.int 5)) aNil))) aNil)))) aNil))) (lBin gDiv (lCall 2 gd [] (aCons (lVar 0) (aCons (lC (.int 4)) aNil))) (lC (.int 3)))) aNil)))
    (I := fun k S' => ∃ ys : List (List Pr), S'[LL]? = some (.lst (ys.map yrD)) ∧ ys.length = k ∧ (∀ y ∈ ys, y.length ≤ 26 ∧ (∀ p ∈ y, nmP p) ∧ rsP y = true) ∧ S'[q]? = some (.lst (ws.map D.str)) ∧ PotAt j i (n9 + 100 * k) S' ∧ Keep2 j i S S') (fun _ => trivial)
    ((List.range yc.toNat).map fun (i : Nat) => D.int (i : Int)) 0 S9 (by simp) ⟨[], hl9, rfl, by simp, hq9, p9.mono (by omega), K9⟩ (by
    intro d hd k S' hk ⟨ys, hl, hyl, hyo, hq', hp', hK⟩
    obtain ⟨t, _, rfl⟩ := List.mem_map.mp hd
    obtain ⟨Sa, pa, ea, la, na, ra, ppa, ka⟩ := St (n9 + 100 * k) S' j i inn hp' (by omega) (by omega) hinn hind
    obtain ⟨vb, Sb, eb, vb0, vb1, ppb, kb⟩ := Sd (n9 + 100 * k + 30) Sa j i 5 ppa (by omega) (by decide) (by omega)
    obtain ⟨pb, Sc, ec, lc, nc, rc, ppc, kc⟩ := Sp (n9 + 100 * k + 30 + 1) Sb j i q ws vb ppb (by omega) ((ka.trans kb).get hq' hqj hqi) hqj hqi (by omega) (by omega) hwn vb0 (by omega)
    obtain ⟨vd, Sd', ed, vd0, vd1, ppd, kd⟩ := Sd (n9 + 100 * k + 30 + 1 + 26) Sc j i 4 ppc (by omega) (by decide) (by omega)
    have hkall := ((ka.trans kb).trans kc).trans kd
    obtain ⟨y, hy, yo⟩ : ∃ y : List Pr, gIx Sd' (.lst [.tup (psD pa), .tup (psD pb)]) (.int (vd / 3)) = some (yrD y) ∧ y.length ≤ 26 ∧ (∀ p ∈ y, nmP p) ∧ rsP y = true := by
      by_cases h3 : vd < 3
      · have : vd / 3 = 0 := by omega
        rw [this]
        exact ⟨pa, rfl, by omega, na, ra⟩
      · have : vd / 3 = 1 := by omega
        rw [this]
        exact ⟨pb, rfl, by omega, nc, rc⟩
    have hl' := hkall.get hl hLj hLi
    refine ⟨_, _, Sd'.set LL (.lst ((ys ++ [y]).map yrD)), rfl, expr_ok (bm_ok rfl (ty_lst hl) (acons_ok (bin_ok (lst_ok (acons_ok (call_ok (acons_ok rfl (acons_ok rfl rfl)) rfl ea) (acons_ok (call_ok (acons_ok rfl (acons_ok rfl (acons_ok (call_ok (acons_ok rfl (acons_ok rfl rfl)) rfl eb) rfl))) rfl ec) rfl)) (by simp)) (bin_ok (call_ok (acons_ok rfl (acons_ok rfl rfl)) rfl ed) rfl (div_ii (by decide) (sml (by decide) (by decide +kernel)))) hy) rfl) ((app_ok hl' (by rw [List.length_map]; omega)).trans (by rw [List.map_append]; rfl))), rfl, ys ++ [y], set_self hl', by simp [hyl], fun y' hy' => ?_, ?_, (ppd.set hLj hLi).mono (by omega), (hK.trans hkall).set_new hSL⟩
    · rcases List.mem_append.mp hy' with hy' | hy'
      · exact hyo y' hy'
      · rw [List.mem_singleton.mp hy']; exact yo
    · rw [List.getElem?_set_ne hLq]; exact hkall.get hq' hqj hqi)
  obtain ⟨ys, hl10, hyl, hyo, hq10, p10, K10⟩ := hI
  have hy10 : ys.length ≤ 10 := by omega
  -- the gap
  obtain ⟨ga, S11, e11, ga0, ga1, p11, k11⟩ := Sd (n9 + 100 * yc.toNat) S10 j i (10 ^ 29) p10 (by omega) bb6 bb5
  obtain ⟨gb, S12, e12, gb0, gb1, p12, k12⟩ := Sd (n9 + 100 * yc.toNat + 1) S11 j i 7 p11 (by omega) (by decide) (by omega)
  have hlen : ∀ (ρ : Ev), ρ[9]? = some (some (.ref LL)) → lCallB gLen (aCons (lVar 9) aNil) ρ S10 = .ok (.int (ys.length : Int)) S10 := fun ρ h => callb_ok (acons_ok (by unfold lVar; rw [h]) rfl) ((len_ref hl10).trans (by rw [List.length_map]))
  obtain ⟨gap, hgap, gp0, gp1⟩ : ∃ gap : Int, gIx S12 (.lst [.int 0, .int 1, .int 1, .int 2, .int (ys.length : Int), .int ((ys.length : Int) + 1), .int ga]) (.int gb) = some (.int gap) ∧ 0 ≤ gap ∧ gap < 10 ^ 30 := by
    obtain ⟨y, hy, hm⟩ := atI_mem (xs := [D.int 0, .int 1, .int 1, .int 2, .int (ys.length : Int), .int ((ys.length : Int) + 1), .int ga]) (v := gb) gb0 (by simpa using gb1)
    simp only [List.mem_cons, List.not_mem_nil, or_false] at hm
    rcases hm with rfl | rfl | rfl | rfl | rfl | rfl | rfl
    · exact ⟨_, hy, by decide, by decide +kernel⟩
    · exact ⟨_, hy, by decide, by decide +kernel⟩
    · exact ⟨_, hy, by decide, by decide +kernel⟩
    · exact ⟨_, hy, by decide, by decide +kernel⟩
    · exact ⟨_, hy, by omega, by omega⟩
    · exact ⟨_, hy, by omega, by omega⟩
    · exact ⟨_, hy, by omega, by omega⟩
  have hpow : ∀ (ρ : Ev), lBin gPow (lC (.int 10)) (lC (.int 29)) ρ S10 = .ok (.int (10 ^ 29)) S10 := fun ρ => bin_ok rfl rfl (pow_ii ⟨by decide, by decide, by decide⟩)
  have hl12 := (k11.trans k12).get hl10 hLj hLi
  have htup : gTuple S12 [.ref LL] = some (.tup (ys.map yrD)) := tup_ref hl12
  refine ⟨ms.mergeSort leP, bs, ys, gap, .lst (st.map D.str), S12, body_rt (seq_nx (set_ok (call_ok (acons_ok rfl (acons_ok (bin_ok rfl (call_ok (acons_ok rfl (acons_ok (bin_ok rfl rfl add2_ii) rfl)) rfl e1) add2_ii) rfl)) rfl e2)) (seq_nx hpar (seq_nx hset5 (seq_nx hset6 (seq_nx hpar2 (seq_nx (for_ok hra e10)
    (seq_nx (set_ok (bin_ok (lst_ok (acons_ok rfl (acons_ok rfl (acons_ok rfl (acons_ok rfl (acons_ok (hlen _ rfl) (acons_ok (bin_ok (hlen _ rfl) rfl add2_ii) (acons_ok (call_ok (acons_ok rfl (acons_ok (hpow _) rfl)) rfl e11) rfl))))))) (by simp)) (call_ok (acons_ok rfl (acons_ok rfl rfl)) rfl e12) hgap))
      (ret_ok (tup_ok (acons_ok rfl (acons_ok rfl (acons_ok (callb_ok (acons_ok rfl rfl) htup) (acons_ok rfl (acons_ok rfl rfl))))) (by simp)))))))))), ⟨by rw [hpm.length_eq]; omega, fun p hp => n3 p (hpm.mem_iff.mp hp), mem_sort_rise (by rw [g3]; exact hind)⟩, bl, bn, br, ⟨hy10, hyo⟩, gp0, gp1, p12.mono (by omega), (K10.trans k11).trans k12⟩
end
end K01

namespace K01
open PySem PySem.Spec PyProof.Rows L2 MP TL
open K06 (riP Cd cd_of cd_repr)
open K59 (Pr nm givs taks slt isL lets nm_ok sle sorted_strs)
/-! ### something else in the place of a thing -/
inductive Gd (N : Nat) : D → Prop where
  | non : Gd N .non
  | bl (b : Bool) : Gd N (.bl b)
  | int (i : Int) (h : -(10 ^ 31) ≤ i ∧ i ≤ 10 ^ 31) : Gd N (.int i)
  | str (x : Str) (h : x.length ≤ N * N) : Gd N (.str x)
  | lst (xs : List D) : Gd N (.lst xs)
  | dct (t : Bool) (kvs : List (D × D)) : Gd N (.dct t kvs)
  | tup (xs : List D) (hl : xs.length ≤ N) (h : ∀ x ∈ xs, Gd N x) : Gd N (.tup xs)
theorem Gd.mono {N M : Nat} {d : D} (h : Gd N d) (hm : N ≤ M) : Gd M d := by
  induction h with
  | non => exact .non
  | bl b => exact .bl b
  | int i h => exact .int i h
  | str x h => exact .str x (Nat.le_trans h (Nat.mul_le_mul hm hm))
  | lst xs => exact .lst xs
  | dct t kvs => exact .dct t kvs
  | tup xs hl h ih => exact .tup xs (Nat.le_trans hl hm) ih
theorem Gd.up {d : D} (h : Gd 29 d) : Gd 60 d := h.mono (by decide)
theorem Gd.inv {N : Nat} {xs : List D} (h : Gd N (.tup xs)) : xs.length ≤ N ∧ ∀ x ∈ xs, Gd N x := by
  cases h with
  | tup _ hl h => exact ⟨hl, h⟩
theorem Gd.plain {d : D} (h : Gd 60 d) : plainD d = true := by
  cases h with
  | str x h => exact decide_eq_true (by omega)
  | _ => rfl
theorem Gd.in1 {d : D} (h : Gd 60 d) : In1 d := ⟨h.plain, fun xs e x hx => by subst e; exact (h.inv.2 x hx).plain⟩
theorem Gd.in2 {d : D} (h : Gd 60 d) : In2 d := ⟨h.plain, fun xs e => by subst e; exact ⟨by have := h.inv.1; omega, fun x hx => (h.inv.2 x hx).in1⟩⟩
theorem Gd.in3 {d : D} (h : Gd 60 d) : In3 d := ⟨h.plain, fun xs e => by subst e; exact ⟨by have := h.inv.1; omega, fun x hx => (h.inv.2 x hx).in2⟩⟩
theorem Gd.few {d : D} (h : Gd 60 d) : few d := fun xs e => by subst e; have := h.inv.1; omega
theorem Gd.intOk {d : D} (h : Gd 60 d) : IntOk d := fun i e => by
  subst e
  cases h with
  | int _ h =>
    have b1 : (10 : Int) ^ 31 < 2 ^ 200 := by decide +kernel
    have hn : i.natAbs < 2 ^ 200 := by
      have := abs_lt (i := i) (n := 2 ^ 200) (by simpa using (by omega : -(2 ^ 200 : Int) < i)) (by simpa using (by omega : i < (2 ^ 200 : Int)))
      exact this
    exact Nat.lt_trans (lg_lt hn (by decide)) (by decide)
theorem cutD_sub {xs : List D} {lo hi : Option Int} : (∀ x ∈ MP.cutD xs lo hi, x ∈ xs) ∧ (MP.cutD xs lo hi).length ≤ xs.length := by
  unfold MP.cutD
  exact ⟨fun x hx => List.mem_of_mem_drop (List.mem_of_mem_take hx), by rw [List.length_take, List.length_drop]; omega⟩
theorem tcatD {S : Sto} {a b : List D} (h : a.length + b.length ≤ 1000) : gAdd2 S (.tup a) (.tup b) = some (.tup (a ++ b)) := by
  have e : gCat S (.tup a) (.tup b) = some (.tup (a ++ b)) := if_pos (sz (by omega))
  show ((((none : Option D).or none).or (gCat S (.tup a) (.tup b))).or _) = _
  rw [e]
  rfl
theorem mulx_lst {S : Sto} {xs : List D} {k : Int} (h0 : 0 ≤ k) (h1 : k ≤ 1000) (h2 : xs.length * k.toNat ≤ 1000000) : gMulX S (.lst xs) (.int k) = some (.lst (List.replicate k.toNat xs).flatten) := by
  have e1 : gMulI S (.lst xs) (.int k) = none := rfl
  have e2 : gRepL S (.lst xs) (.int k) = some (.lst (List.replicate k.toNat xs).flatten) := by
    unfold gRepL
    dsimp only [vw]
    exact if_pos ⟨h0, h1, h2⟩
  unfold gMulX
  rw [e1, e2]
  rfl
theorem mulx_tup2 {S : Sto} {xs : List D} (h : xs.length ≤ 1000) : gMulX S (.tup xs) (.int 2) = some (.tup (xs ++ xs)) := by
  have e1 : gMulI S (.tup xs) (.int 2) = none := rfl
  have e2 : gRepL S (.tup xs) (.int 2) = none := rfl
  unfold gMulX
  rw [e1, e2]
  cases xs with
  | nil => rfl
  | cons x xs =>
    have e3 : gRepT S (.tup (x :: xs)) (.int 2) = some (.tup (List.replicate (2 : Int).toNat (x :: xs)).flatten) := by
      unfold gRepT
      dsimp only [vw]
      exact if_pos ⟨by decide, by decide, h⟩
    rw [e3]
    show some (D.tup (List.replicate 2 (x :: xs)).flatten) = _
    simp [List.replicate_succ]
theorem flat_mem {α : Type} {n : Nat} {xs : List α} {y : α} (h : y ∈ (List.replicate n xs).flatten) : y ∈ xs := by
  rw [List.mem_flatten] at h
  obtain ⟨l, hl, hy⟩ := h
  rw [(List.mem_replicate.mp hl).2] at hy
  exact hy
def SOdd (g : F) : Prop := ∀ (n : Int) (S : Sto) (j i : Nat) (d : D), PotAt j i n S → n < 10 ^ 27 → Gd 29 d → ∃ (d' : D) (S' : Sto), g [.ref j, d] S = .ok d' S' ∧ Gd 60 d' ∧ PotAt j i (n + 1) S' ∧ Keep2 j i S S'
def oddA : List D := [.non, .bl true, .bl false, .int 0, .int (-1), .int 1, .str "", .str "a", .str "A", .str "ab", .str "abcdefghijklm", .str "a b", .tup [], .lst [], .dct false [], .tup [.str "a", .str ""], .tup [.str "a", .str "b"]]
def oddB (d : D) : List D := [.tup [d], .lst [d], .tup [.str "a"], .tup [.str "b", .str "a", .str "c"], .tup [.tup [.str "a", .str "b"]], .int (10 ^ 29)]
theorem gstr {x : Str} (h : x.length ≤ 20) : Gd 60 (.str x) := .str x (by omega)
theorem oddA_ok : ∀ y ∈ oddA, Gd 60 y := by
  intro y hy
  unfold oddA at hy
  simp only [List.mem_cons, List.not_mem_nil, or_false] at hy
  rcases hy with rfl | rfl | rfl | rfl | rfl | rfl | rfl | rfl | rfl | rfl | rfl | rfl | rfl | rfl | rfl | rfl | rfl
  · exact .non
  · exact .bl _
  · exact .bl _
  · exact .int _ (by decide +kernel)
  · exact .int _ (by decide +kernel)
  · exact .int _ (by decide +kernel)
  · exact gstr (by decide)
  · exact gstr (by decide)
  · exact gstr (by decide)
  · exact gstr (by decide)
  · exact gstr (by decide)
  · exact gstr (by decide)
  · exact .tup _ (by simp) (by simp)
  · exact .lst _
  · exact .dct _ _
  · exact .tup _ (by simp) (by simp only [List.mem_cons, List.not_mem_nil, or_false]; rintro x (rfl | rfl) <;> exact gstr (by decide))
  · exact .tup _ (by simp) (by simp only [List.mem_cons, List.not_mem_nil, or_false]; rintro x (rfl | rfl) <;> exact gstr (by decide))
theorem oddB_ok {d : D} (h : Gd 60 d) : ∀ y ∈ oddB d, Gd 60 y := by
  intro y hy
  unfold oddB at hy
  simp only [List.mem_cons, List.not_mem_nil, or_false] at hy
  rcases hy with rfl | rfl | rfl | rfl | rfl | rfl
  · exact .tup _ (by simp) (by simp only [List.mem_cons, List.not_mem_nil, or_false]; rintro x rfl; exact h)
  · exact .lst _
  · exact .tup _ (by simp) (by simp only [List.mem_cons, List.not_mem_nil, or_false]; rintro x rfl; exact gstr (by decide))
  · exact .tup _ (by simp) (by simp only [List.mem_cons, List.not_mem_nil, or_false]; rintro x (rfl | rfl | rfl) <;> exact gstr (by decide))
  · have h1 : Gd 60 (.tup [.str "a", .str "b"]) := .tup _ (by simp) (by simp only [List.mem_cons, List.not_mem_nil, or_false]; rintro x (rfl | rfl) <;> exact gstr (by decide))
    exact .tup _ (by simp) fun x hx => by rw [List.mem_singleton.mp hx]; exact h1
  · exact .int _ (by decide +kernel)
theorem upper_ok {l : LE} {ρ : Ev} {S S1 : Sto} {z : Str} (h : l ρ S = .ok (.str z) S1) (hz : z.length ≤ 100000) : lUpper l ρ S = .ok (.str (Txt.upper z)) S1 := by
  unfold lUpper
  rw [h, bind_ok]
  exact if_pos hz
section
variable {P : Program} {w : World} {K : PySem.W.Frag} {mg : Str → Option Value} {base : Heap}
theorem ok_odd (T : T01 K mg) : ∃ g, FnL P w K mg base 4 T.f__law_odd T.fd__law_odd ["_law_pot_here", "_law_thing"] g ∧ SOdd g := by
  obtain ⟨gp, Fn__law_pick, Sp⟩ := ok_pick (P := P) (w := w) (base := base) T
  refine ⟨_, Fun.okL T.F__law_odd sc__law_odd fun cdv A outer s H E hr =>
(pssl_cons (psl_set (i := 2) sc__law_odd.nd (pel_lst (pal_cons pel_non (pal_cons pel_bl (pal_cons pel_bl (pal_cons pel_int (pal_cons (pel_un unl_neg pel_int) (pal_cons pel_int (pal_cons pel_str (pal_cons pel_str (pal_cons pel_str (pal_cons pel_str (pal_cons pel_str (pal_cons pel_str (pal_cons (pel_tup pal_nil) (pal_cons (pel_lst pal_nil) (pal_cons pel_dctK (pal_cons (pel_tup (pal_cons pel_str (pal_cons pel_str pal_nil))) (pal_cons (pel_tup (pal_cons pel_str (pal_cons pel_str pal_nil))) pal_nil)))))))))))))))))))
  (pssl_cons (psl_set (i := 2) sc__law_odd.nd (pel_op opl_add2 (pel_var (i := 2)) (pel_lst (pal_cons (pel_tup (pal_cons (pel_var (i := 1)) pal_nil)) (pal_cons (pel_lst (pal_cons (pel_var (i := 1)) pal_nil)) (pal_cons (pel_tup (pal_cons pel_str pal_nil)) (pal_cons (pel_tup (pal_cons pel_str (pal_cons pel_str (pal_cons pel_str pal_nil)))) (pal_cons (pel_tup (pal_cons (pel_tup (pal_cons pel_str (pal_cons pel_str pal_nil))) pal_nil)) (pal_cons (pel_op opl_pow pel_int pel_int) pal_nil)))))))))
  (pssl_cons (psl_if (ptl_truth (pel_isi rfl T.n_isinstance (pel_var (i := 1)) (pe_bltn rfl T.n_str (v := .ty "str") (u := .type "str") (by decide +kernel) rfl) (.ty _) isi_strA)) (pssl_one (psl_set (i := 2) sc__law_odd.nd (pel_op opl_add2 (pel_var (i := 2)) (pel_op opl_mulX (pel_lst (pal_cons (pel_op opl_add2 (pel_var (i := 1)) pel_str) (pal_cons (pel_slice sll_any (pel_var (i := 1)) (pol_some pel_int) pol_none) (pal_cons (pel_slice sll_any (pel_var (i := 1)) pol_none (pol_some (pel_un unl_neg pel_int))) (pal_cons (pel_upper (pel_var (i := 1))) (pal_cons (pel_op opl_add2 (pel_var (i := 1)) pel_str) pal_nil)))))) pel_int)))) pssl_nil)
  (pssl_cons (psl_if (ptl_truth (pel_isi rfl T.n_isinstance (pel_var (i := 1)) (pe_bltn rfl T.n_tuple (v := .ty "tuple") (u := .type "tuple") (by decide +kernel) rfl) (.ty _) isi_tupleA)) (pssl_one (psl_set (i := 2) sc__law_odd.nd (pel_op opl_add2 (pel_var (i := 2)) (pel_op opl_mulX (pel_lst (pal_cons (pel_revT (pel_var (i := 1))) (pal_cons (pel_op opl_add2 (pel_var (i := 1)) (pel_slice sll_any (pel_var (i := 1)) pol_none (pol_some pel_int))) (pal_cons (pel_slice sll_any (pel_var (i := 1)) (pol_some pel_int) pol_none) (pal_cons (pel_op opl_add2 (pel_var (i := 1)) (pel_tup (pal_cons (pel_tup (pal_cons pel_str (pal_cons pel_str pal_nil))) pal_nil))) (pal_cons (pel_callTy (cl_list) rfl T.n_list (by decide +kernel) (pal_cons (pel_var (i := 1)) pal_nil)) (pal_cons (pel_op opl_mulX (pel_var (i := 1)) pel_int) pal_nil))))))) pel_int)))) pssl_nil)
  (pssl_one (psl_ret (pel_call Fn__law_pick (hr.mono (by decide)) rfl T.mg__law_pick T.F__law_pick.kp T.b__law_pick dfl_nil (pal_cons (pel_var (i := 0)) (pal_cons (pel_var (i := 2)) pal_nil))))))))), ?_⟩
  intro n S j i d hp hn hd
  have bb : (10 : Int) ^ 27 + 100 < 10 ^ 29 := by decide +kernel
  have hA : ∀ ρ : Ev, ρ = [some (.ref j), some d, none] → lSet 2 (lLst (aCons (lC .non) (aCons (lC (.bl true)) (aCons (lC (.bl false)) (aCons (lC (.int 0)) (aCons (lUn gNeg (lC (.int 1))) (aCons (lC (.int 1)) (aCons (lC (.str "")) (aCons (lC (.str "a")) (aCons (lC (.str "A")) (aCons (lC (.str "ab")) (aCons (lC (.str "abcdefghijklm")) (aCons (lC (.str "a b")) (aCons (lTup aNil) (aCons (lLst aNil) (aCons (lDct false) (aCons (lTup (aCons (lC (.str "a")) (aCons (lC (.str "")) aNil))) (aCons (lTup (aCons (lC (.str "a")) (aCons (lC (.str "b")) aNil))) aNil)))))))))))))))))) ρ S = .ok (.nx [some (.ref j), some d, some (.lst oddA)]) S := fun ρ e => by
    subst e
    exact set_ok (lst_ok (acons_ok rfl (acons_ok rfl (acons_ok rfl (acons_ok rfl (acons_ok (un_ok rfl rfl) (acons_ok rfl (acons_ok rfl (acons_ok rfl (acons_ok rfl (acons_ok rfl (acons_ok rfl (acons_ok rfl (acons_ok (tup_ok rfl (by simp)) (acons_ok (lst_ok rfl (by simp)) (acons_ok rfl (acons_ok (tup_ok (acons_ok rfl (acons_ok rfl rfl)) (by simp)) (acons_ok (tup_ok (acons_ok rfl (acons_ok rfl rfl)) (by simp)) rfl))))))))))))))))) (by decide))
  obtain ⟨L, hL⟩ : ∃ L, L = oddA ++ oddB d := ⟨_, rfl⟩
  have lL : L.length = 23 := by rw [hL]; rfl
  have gL : ∀ y ∈ L, Gd 60 y := fun y hy => by
    rw [hL] at hy
    exact (List.mem_append.mp hy).elim (oddA_ok y) (oddB_ok hd.up y)
  have e5 : ∀ ρ : Ev, lTup (aCons (lTup (aCons (lC (.str "a")) (aCons (lC (.str "b")) aNil))) aNil) ρ S = .ok (.tup [.tup [.str "a", .str "b"]]) S := fun ρ => by
    have h : lTup (aCons (lC (.str "a")) (aCons (lC (.str "b")) aNil)) ρ S = .ok (.tup [.str "a", .str "b"]) S := tup_ok (acons_ok rfl (acons_ok rfl rfl)) (by simp)
    exact tup_ok (acons_ok h rfl) (by simp)
  have hB : lSet 2 (lBin gAdd2 (lVar 2) (lLst (aCons (lTup (aCons (lVar 1) aNil)) (aCons (lLst (aCons (lVar 1) aNil)) (aCons (lTup (aCons (lC (.str "a")) aNil)) (aCons (lTup (aCons (lC (.str "b")) (aCons (lC (.str "a")) (aCons (lC (.str "c")) aNil)))) (aCons (lTup (aCons (lTup (aCons (lC (.str "a")) (aCons (lC (.str "b")) aNil))) aNil)) (aCons (lBin gPow (lC (.int 10)) (lC (.int 29))) aNil)))))))) [some (.ref j), some d, some (.lst oddA)] S = .ok (.nx [some (.ref j), some d, some (.lst L)]) S :=
    set_ok (bin_ok rfl (lst_ok (acons_ok (tup_ok (acons_ok rfl rfl) (by simp)) (acons_ok (lst_ok (acons_ok rfl rfl) (by simp)) (acons_ok (tup_ok (acons_ok rfl rfl) (by simp)) (acons_ok (tup_ok (acons_ok rfl (acons_ok rfl (acons_ok rfl rfl))) (by simp)) (acons_ok (e5 _) (acons_ok (bin_ok rfl rfl (pow_ii ⟨by decide, by decide, by decide⟩)) rfl)))))) (by simp)) (catL rfl rfl (by rw [hL]; rfl) (by rw [lL]; decide)))
  have fin : ∀ M : List D, (∀ y ∈ M, Gd 60 y) → 0 < M.length → M.length ≤ 200 → ∃ (d' : D) (S' : Sto), lRet (lCall 2 gp [] (aCons (lVar 0) (aCons (lVar 2) aNil))) [some (.ref j), some d, some (.lst M)] S = .ok (.rt d') S' ∧ Gd 60 d' ∧ PotAt j i (n + 1) S' ∧ Keep2 j i S S' := fun M hM h0 h1 => by
    obtain ⟨y, S3, e3, hy, p3, k3⟩ := pick_lst Sp hp (by omega) (L := M) h0 (by omega)
    exact ⟨y, S3, ret_ok (call_ok (acons_ok rfl (acons_ok rfl rfl)) rfl e3), hM y hy, p3, k3⟩
  have nos : (∀ x, d ≠ .str x) → tTru (lIsi tabStrA (lVar 1)) [some (.ref j), some d, some (.lst L)] S = .ok false S := fun h => by
    cases hd with
    | str x _ => exact absurd rfl (h x)
    | _ => exact tru_b (isi_ok rfl rfl) rfl
  by_cases ht : ∃ xs, d = .tup xs
  · obtain ⟨xs, rfl⟩ := ht
    obtain ⟨hl, hx⟩ := hd.inv
    have c1 := @cutD_sub xs none (some 1)
    have c2 := @cutD_sub xs (some 1) none
    obtain ⟨M, hM⟩ : ∃ M, M = [D.tup xs.reverse, .tup (xs ++ MP.cutD xs none (some 1)), .tup (MP.cutD xs (some 1) none), .tup (xs ++ [.tup [.str "a", .str "a"]]), .lst xs, .tup (xs ++ xs)] := ⟨_, rfl⟩
    have gM : ∀ y ∈ M, Gd 60 y := fun y hy => by
      rw [hM] at hy
      simp only [List.mem_cons, List.not_mem_nil, or_false] at hy
      rcases hy with rfl | rfl | rfl | rfl | rfl | rfl
      · exact .tup _ (by rw [List.length_reverse]; omega) fun x h => (hx x (List.mem_reverse.mp h)).up
      · exact .tup _ (by rw [List.length_append]; omega) fun x h => (List.mem_append.mp h).elim (fun h => (hx x h).up) fun h => (hx x (c1.1 x h)).up
      · exact .tup _ (by omega) fun x h => (hx x (c2.1 x h)).up
      · refine .tup _ (by simp only [List.length_append, List.length_cons, List.length_nil]; omega) fun x h => (List.mem_append.mp h).elim (fun h => (hx x h).up) fun h => ?_
        rw [List.mem_singleton.mp h]
        exact .tup _ (by simp) (by simp only [List.mem_cons, List.not_mem_nil, or_false]; rintro x (rfl | rfl) <;> exact gstr (by decide))
      · exact .lst _
      · exact .tup _ (by rw [List.length_append]; omega) fun x h => (List.mem_append.mp h).elim (fun h => (hx x h).up) fun h => (hx x h).up
    have lM : M.length = 6 := by rw [hM]; rfl
    obtain ⟨d', S', e, g1, p1, k1⟩ := fin (L ++ (List.replicate (2 : Int).toNat M).flatten) (fun y hy => (List.mem_append.mp hy).elim (gL y) fun h => gM y (flat_mem h)) (by rw [List.length_append]; omega) (by rw [List.length_append, lL]; have : (List.replicate (2 : Int).toNat M).flatten.length = 12 := (by simp [List.replicate_succ, lM]); omega)
    have hcat : gAdd2 S (.lst L) (.lst (List.replicate (2 : Int).toNat M).flatten) = some (.lst (L ++ (List.replicate (2 : Int).toNat M).flatten)) := catL rfl rfl rfl (by rw [List.length_append, lL]; have : (List.replicate (2 : Int).toNat M).flatten.length = 12 := (by simp [List.replicate_succ, lM]); omega)
    have hmul : gMulX S (.lst M) (.int 2) = some (.lst (List.replicate (2 : Int).toNat M).flatten) := mulx_lst (by decide) (by decide) (by rw [lM]; decide)
    have hlst : lLst (aCons (lUn gRevT (lVar 1)) (aCons (lBin gAdd2 (lVar 1) (lSlice gSlice (lVar 1) oNone (oSome (lC (.int 1))))) (aCons (lSlice gSlice (lVar 1) (oSome (lC (.int 1))) oNone) (aCons (lBin gAdd2 (lVar 1) (lTup (aCons (lTup (aCons (lC (.str "a")) (aCons (lC (.str "a")) aNil))) aNil))) (aCons (lCallB gList (aCons (lVar 1) aNil)) (aCons (lBin gMulX (lVar 1) (lC (.int 2))) aNil)))))) [some (.ref j), some (.tup xs), some (.lst L)] S = .ok (.lst M) S := by
      rw [hM]
      exact lst_ok (acons_ok (un_ok rfl rfl) (acons_ok (bin_ok rfl (slice_ok rfl rfl (osome_ok rfl) rfl) (tcatD (by omega))) (acons_ok (slice_ok rfl (osome_ok rfl) rfl rfl) (acons_ok (bin_ok rfl (tup_ok (acons_ok (tup_ok (acons_ok rfl (acons_ok rfl rfl)) (by simp)) rfl) (by simp)) (tcatD (by simp; omega))) (acons_ok (callb_ok (acons_ok rfl rfl) rfl) (acons_ok (bin_ok rfl rfl (mulx_tup2 (by omega))) rfl)))))) (by simp)
    exact ⟨d', S', body_rt (seq_nx (hA _ rfl) (seq_nx hB (seq_nx (if_ff (nos fun x e => nomatch e) rfl) (seq_nx (if_tt (tru_b (isi_ok rfl rfl) rfl) (set_ok (bin_ok rfl (bin_ok hlst rfl hmul) hcat))) e)))), g1, p1, k1⟩
  · have not_ : ∀ M : D, tTru (lIsi tabTupA (lVar 1)) [some (.ref j), some d, some M] S = .ok false S := fun M => by
      cases hd with
      | tup xs _ _ => exact absurd ⟨xs, rfl⟩ ht
      | _ => exact tru_b (isi_ok rfl rfl) rfl
    by_cases hs : ∃ x, d = .str x
    · obtain ⟨x, rfl⟩ := hs
      have hx : x.length ≤ 841 := by
        cases hd with
        | str _ h => exact h
      have l1 := @ln_drop x 1 (by decide)
      have l2 : (cutS x none (some (-1))).length ≤ x.length := by
        rw [len_tl, len_tl]
        show (((tl x).drop _).take _).length ≤ _
        rw [List.length_take, List.length_drop]
        omega
      have l3 := PyProof.Rows.len_upper x
      have la : ("a" : Str).length = 1 := by decide
      have lm : ("-" : Str).length = 1 := by decide
      obtain ⟨M, hM⟩ : ∃ M, M = [D.str (x ++ "a"), .str (cutS x (some 1) none), .str (cutS x none (some (-1))), .str (Txt.upper x), .str (x ++ "-")] := ⟨_, rfl⟩
      have gM : ∀ y ∈ M, Gd 60 y := fun y hy => by
        rw [hM] at hy
        simp only [List.mem_cons, List.not_mem_nil, or_false] at hy
        rcases hy with rfl | rfl | rfl | rfl | rfl
        · exact .str _ (by rw [len_app']; omega)
        · exact .str _ (by omega)
        · exact .str _ (by omega)
        · exact .str _ (by omega)
        · exact .str _ (by rw [len_app']; omega)
      have lM : M.length = 5 := by rw [hM]; rfl
      obtain ⟨d', S', e, g1, p1, k1⟩ := fin (L ++ (List.replicate (2 : Int).toNat M).flatten) (fun y hy => (List.mem_append.mp hy).elim (gL y) fun h => gM y (flat_mem h)) (by rw [List.length_append]; omega) (by rw [List.length_append, lL]; have : (List.replicate (2 : Int).toNat M).flatten.length = 10 := (by simp [List.replicate_succ, lM]); omega)
      have hcat : gAdd2 S (.lst L) (.lst (List.replicate (2 : Int).toNat M).flatten) = some (.lst (L ++ (List.replicate (2 : Int).toNat M).flatten)) := catL rfl rfl rfl (by rw [List.length_append, lL]; have : (List.replicate (2 : Int).toNat M).flatten.length = 10 := (by simp [List.replicate_succ, lM]); omega)
      have hmul : gMulX S (.lst M) (.int 2) = some (.lst (List.replicate (2 : Int).toNat M).flatten) := mulx_lst (by decide) (by decide) (by rw [lM]; decide)
      have hlst : lLst (aCons (lBin gAdd2 (lVar 1) (lC (.str "a"))) (aCons (lSlice gSlice (lVar 1) (oSome (lC (.int 1))) oNone) (aCons (lSlice gSlice (lVar 1) oNone (oSome (lUn gNeg (lC (.int 1))))) (aCons (lUpper (lVar 1)) (aCons (lBin gAdd2 (lVar 1) (lC (.str "-"))) aNil))))) [some (.ref j), some (.str x), some (.lst L)] S = .ok (.lst M) S := by
        rw [hM]
        exact lst_ok (acons_ok (bin_ok rfl rfl (add2_ss (sz (by omega)))) (acons_ok (slice_ok rfl (osome_ok rfl) rfl (slS (by omega))) (acons_ok (slice_ok rfl rfl (osome_ok (un_ok rfl rfl)) (slS (by omega))) (acons_ok (upper_ok rfl (by omega)) (acons_ok (bin_ok rfl rfl (add2_ss (sz (by omega)))) rfl))))) (by simp)
      exact ⟨d', S', body_rt (seq_nx (hA _ rfl) (seq_nx hB (seq_nx (if_tt (tru_b (isi_ok rfl rfl) rfl) (set_ok (bin_ok rfl (bin_ok hlst rfl hmul) hcat))) (seq_nx (if_ff (not_ _) rfl) e)))), g1, p1, k1⟩
    · obtain ⟨d', S', e, g1, p1, k1⟩ := fin L gL (by omega) (by omega)
      exact ⟨d', S', body_rt (seq_nx (hA _ rfl) (seq_nx hB (seq_nx (if_ff (nos fun x e => hs ⟨x, e⟩) rfl) (seq_nx (if_ff (not_ _) rfl) e)))), g1, p1, k1⟩
end
end K01

namespace K01
open PySem PySem.Spec PyProof.Rows L2 MP TL
open K06 (riP Cd cd_of cd_repr)
open K59 (Pr nm givs taks slt isL lets nm_ok sle sorted_strs)
/-! ### otherwise, at a drawn place of any depth -/
def leaf (d : D) : Prop := (∃ x, d = .str x ∧ PyData.strOk x = true ∧ x.length ≤ 12) ∨ ∃ i : Int, d = .int i ∧ 0 ≤ i ∧ i ≤ 10 ^ 30
def hs : Nat → D → Prop
  | 0, d => leaf d
  | k + 1, d => leaf d ∨ ∃ xs, d = .tup xs ∧ xs.length ≤ 29 ∧ ∀ x ∈ xs, hs k x
theorem leaf_gd {d : D} : leaf d → Gd 29 d
  | .inl ⟨x, e, _, h⟩ => by rw [e]; exact .str x (by omega)
  | .inr ⟨i, e, h0, h1⟩ => by
    have b1 : (10 : Int) ^ 30 ≤ 10 ^ 31 ∧ (0 : Int) ≤ 10 ^ 31 := by decide +kernel
    rw [e]
    exact .int i ⟨by omega, by omega⟩
theorem hs_gd : ∀ (k : Nat) (d : D), hs k d → Gd 29 d
  | 0, d, h => leaf_gd h
  | k + 1, d, h => by
    rcases h with h | ⟨xs, e, hl, h⟩
    · exact leaf_gd h
    · rw [e]
      exact .tup xs hl fun x hx => hs_gd k x (h x hx)
theorem leaf_pd {d : D} : leaf d → ∃ p, toPD d = some p ∧ p.canLay0 = true ∧ p.depth ≤ 0
  | .inl ⟨x, e, h, _⟩ => ⟨.str x, by rw [e]; rfl, h, Nat.le_refl _⟩
  | .inr ⟨i, e, _, _⟩ => ⟨.int i, by rw [e]; rfl, rfl, Nat.le_refl _⟩
theorem hs_pds {k : Nat} : ∀ {xs : List D}, (∀ x ∈ xs, ∃ p, toPD x = some p ∧ p.canLay0 = true ∧ p.depth ≤ k) → ∃ ps, toPDs xs = some ps ∧ PyData.canLayAll0 ps = true ∧ PyData.depthAll ps ≤ k ∧ ps.isEmpty = xs.isEmpty
  | [], _ => ⟨[], rfl, rfl, by simp [PyData.depthAll], rfl⟩
  | x :: xs, h => by
    obtain ⟨p, e1, c1, d1⟩ := h x (by simp)
    obtain ⟨ps, e2, c2, d2, _⟩ := hs_pds (k := k) (xs := xs) fun y hy => h y (by simp [hy])
    refine ⟨p :: ps, by simp [toPDs, e1, e2], by simp [PyData.canLayAll0, c1, c2], ?_, rfl⟩
    simp only [PyData.depthAll]
    omega
theorem hs_pd : ∀ (k : Nat) (d : D), hs k d → ∃ p, toPD d = some p ∧ p.canLay0 = true ∧ p.depth ≤ k
  | 0, d, h => leaf_pd h
  | k + 1, d, h => by
    rcases h with h | ⟨xs, e, hl, h⟩
    · obtain ⟨p, e1, c1, d1⟩ := leaf_pd h
      exact ⟨p, e1, c1, by omega⟩
    · obtain ⟨ps, e2, c2, d2, _⟩ := hs_pds fun x hx => hs_pd k x (h x hx)
      refine ⟨.tuple ps, by rw [e]; simp [toPD, e2], c2, ?_⟩
      simp only [PyData.depth]
      omega
theorem ne_nilT {S : Sto} {k : Nat} {xs : List D} (hk : k ≤ 10) (h : hs (k + 1) (.tup xs)) : gNe S (.tup xs) (.tup []) = some (.bl (!xs.isEmpty)) := by
  have hx : ∀ x ∈ xs, hs k x := by
    rcases h with h | ⟨ys, e, hl, hx⟩
    · rcases h with ⟨_, e, _⟩ | ⟨_, e, _⟩ <;> cases e
    · cases e
      exact hx
  obtain ⟨ps, e2, c2, d2, he⟩ := hs_pds fun x hx' => hs_pd k x (hx x hx')
  have e1 : toPD (.tup xs) = some (.tuple ps) := by simp [toPD, e2]
  have hs1 : SeqAt.shaped (.tuple ps) = true := by
    unfold SeqAt.shaped
    rw [Bool.and_eq_true]
    refine ⟨c2, decide_eq_true ?_⟩
    simp only [PyData.depth]
    omega
  have e3 : eqP S (.tup xs) (.tup []) = some xs.isEmpty := by
    unfold eqP
    dsimp only [vw]
    rw [e1]
    show (if SeqAt.shaped (.tuple ps) = true ∧ SeqAt.shaped (.tuple []) = true then some (PyData.eqv (.tuple ps) (.tuple [])) else none) = _
    rw [if_pos ⟨hs1, by decide⟩, ← he]
    cases ps <;> simp [PyData.eqv, PyData.eqvAll]
  unfold gNe eqD
  rw [e3]
  rfl
def SOth (k : Nat) (g : F) : Prop := ∀ (n : Int) (S : Sto) (j i : Nat) (d : D), PotAt j i n S → n + 2 * k < 10 ^ 26 → hs k d →
  ∃ (d' : D) (S' : Sto), g [.ref j, d] S = .ok d' S' ∧ Gd 60 d' ∧ PotAt j i (n + 1 + 2 * k) S' ∧ Keep2 j i S S'
section
variable {P : Program} {w : World} {K : PySem.W.Frag} {mg : Str → Option Value} {base : Heap}
theorem fn_bad {k : Nat} {f : Addr} {fd : FuncData} {ps : List Str} : FnL P w K mg base k f fd ps (fun _ _ => .bad) :=
  ⟨fun vs H Q E h => h.1, fun A outer s H args us vs Q E _ _ _ _ h => by
    obtain ⟨_, _, _, _, _, _, h, _⟩ := h
    exact absurd rfl h⟩
theorem oth_step (T : T01 K mg) (n : Nat) {go : F} (Fn__law_otherwise : FnL P w K mg base (n + 5) T.f__law_otherwise T.fd__law_otherwise ["_law_pot_here", "_law_thing"] go) :
    ∃ g, FnL P w K mg base (n + 6) T.f__law_otherwise T.fd__law_otherwise ["_law_pot_here", "_law_thing"] g ∧ SOth 0 g ∧ ∀ k, k ≤ 10 → SOth k go → SOth (k + 1) g := by
  obtain ⟨gd', Fn__law_draw, Sd⟩ := ok_draw (P := P) (w := w) (base := base) T
  obtain ⟨gO, Fn__law_odd, Sodd⟩ := ok_odd (P := P) (w := w) (base := base) T
  refine ⟨_, Fun.okL T.F__law_otherwise sc__law_otherwise fun cdv A outer s H E hr =>
(pssl_cons (psl_if (PWL.pt (pwl_and (ptl_truth (pel_isi rfl T.n_isinstance (pel_var (i := 1)) (pe_bltn rfl T.n_tuple (v := .ty "tuple") (u := .type "tuple") (by decide +kernel) rfl) (.ty _) isi_tupleA)) (pwl_and (ptl_cmp (opl_ne hr.units) (pel_var (i := 1)) (pel_tup pal_nil)) (pwl_and1 (ptl_cmp opl_gt2 (pel_call Fn__law_draw (hr.mono (by omega)) rfl T.mg__law_draw T.F__law_draw.kp T.b__law_draw dfl_nil (pal_cons (pel_var (i := 0)) (pal_cons pel_int pal_nil))) pel_int))))) (pssl_cons (psl_set (i := 2) sc__law_otherwise.nd (pel_call Fn__law_draw (hr.mono (by omega)) rfl T.mg__law_draw T.F__law_draw.kp T.b__law_draw dfl_nil (pal_cons (pel_var (i := 0)) (pal_cons (pel_callB (cl_len) rfl T.n_len (by decide +kernel) (pal_cons (pel_var (i := 1)) pal_nil)) pal_nil))))
  (pssl_one (psl_ret (pel_op opl_add2 (pel_op opl_add2 (pel_slice sll_any (pel_var (i := 1)) pol_none (pol_some (pel_var (i := 2)))) (pel_tup (pal_cons (pel_call Fn__law_otherwise (hr.mono (by omega)) rfl T.mg__law_otherwise T.F__law_otherwise.kp T.b__law_otherwise dfl_nil (pal_cons (pel_var (i := 0)) (pal_cons (pel_ix ixl_seq (pel_var (i := 1)) (pel_var (i := 2))) pal_nil))) pal_nil))) (pel_slice sll_any (pel_var (i := 1)) (pol_some (pel_op opl_add2 (pel_var (i := 2)) pel_int)) pol_none))))) pssl_nil)
  (pssl_one (psl_ret (pel_call Fn__law_odd (hr.mono (by omega)) rfl T.mg__law_odd T.F__law_odd.kp T.b__law_odd dfl_nil (pal_cons (pel_var (i := 0)) (pal_cons (pel_var (i := 1)) pal_nil)))))), ?_⟩
  have bb : (10 : Int) ^ 26 + 100 < 10 ^ 27 ∧ (10 : Int) ^ 27 < 10 ^ 29 ∧ (1000 : Int) < 10 ^ 200 := by decide +kernel
  obtain ⟨bb1, bb2, bb3⟩ := bb
  have hleaf : ∀ (n : Int) (S : Sto) (j i : Nat) (d : D), PotAt j i n S → n < 10 ^ 26 → leaf d → ∃ (d' : D) (S' : Sto), lSeq (lIfS (MP.tAnd (tTru (lIsi tabTupA (lVar 1))) (MP.tAnd (tTru (lBin gNe (lVar 1) (lTup aNil))) (tTru (lBin gGt2 (lCall 2 gd' [] (aCons (lVar 0) (aCons (lC (.int 4)) aNil))) (lC (.int 0))))))
      (lSeq (lSet 2 (lCall 2 gd' [] (aCons (lVar 0) (aCons (lCallB gLen (aCons (lVar 1) aNil)) aNil)))) (lRet (lBin gAdd2 (lBin gAdd2 (lSlice gSlice (lVar 1) oNone (oSome (lVar 2))) (lTup (aCons (lCall 2 go [] (aCons (lVar 0) (aCons (lBin gIx (lVar 1) (lVar 2)) aNil))) aNil))) (lSlice gSlice (lVar 1) (oSome (lBin gAdd2 (lVar 2) (lC (.int 1)))) oNone)))) lNext)
      (lRet (lCall 2 gO [] (aCons (lVar 0) (aCons (lVar 1) aNil)))) [some (.ref j), some d, none] S = .ok (.rt d') S' ∧ Gd 60 d' ∧ PotAt j i (n + 1) S' ∧ Keep2 j i S S' := fun n S j i d hp hn hd => by
    obtain ⟨d', S', e, g1, p1, k1⟩ := Sodd n S j i d hp (by omega) (leaf_gd hd)
    rcases hd with ⟨x, rfl, _⟩ | ⟨x, rfl, _⟩
    · exact ⟨d', S', (seq_nx (if_ff (and_ff (tru_b (isi_ok rfl rfl) rfl)) rfl) (ret_ok (call_ok (acons_ok rfl (acons_ok rfl rfl)) rfl e))), g1, p1, k1⟩
    · exact ⟨d', S', (seq_nx (if_ff (and_ff (tru_b (isi_ok rfl rfl) rfl)) rfl) (ret_ok (call_ok (acons_ok rfl (acons_ok rfl rfl)) rfl e))), g1, p1, k1⟩
  constructor
  · intro n S j i d hp hn hd
    obtain ⟨d', S', e, g1, p1, k1⟩ := hleaf n S j i d hp (by omega) hd
    exact ⟨d', S', body_rt e, g1, p1.mono (by omega), k1⟩
  · intro k hk10 So n S j i d hp hn hd
    have hgd := hs_gd (k + 1) d hd
    have hd' := hd
    rcases hd with hd | ⟨xs, rfl, hl, hx⟩
    · obtain ⟨d', S', e, g1, p1, k1⟩ := hleaf n S j i d hp (by omega) hd
      exact ⟨d', S', body_rt e, g1, p1.mono (by omega), k1⟩
    have hi : ∀ ρ S, ρ[1]? = some (some (D.tup xs)) → tTru (lIsi tabTupA (lVar 1)) ρ S = .ok true S := fun ρ S h => tru_b (isi_ok (by unfold lVar; rw [h]) rfl) rfl
    have hne : ∀ ρ S, ρ[1]? = some (some (D.tup xs)) → tTru (lBin gNe (lVar 1) (lTup aNil)) ρ S = .ok (!xs.isEmpty) S := fun ρ S h => tru_b (bin_ok (by unfold lVar; rw [h]) (tup_ok rfl (by simp)) (ne_nilT hk10 hd')) rfl
    cases hxe : xs.isEmpty with
    | true =>
      obtain ⟨d', S', e, g1, p1, k1⟩ := Sodd n S j i _ hp (by omega) hgd
      rw [hxe] at hne
      exact ⟨d', S', body_rt (seq_nx (if_ff (and_tt (hi _ _ rfl) (and_ff (hne _ _ rfl))) rfl) (ret_ok (call_ok (acons_ok rfl (acons_ok rfl rfl)) rfl e))), g1, p1.mono (by omega), k1⟩
    | false =>
      rw [hxe] at hne
      have hx0 : 0 < xs.length := by
        cases xs with
        | nil => cases hxe
        | cons x xs => simp
      obtain ⟨v, S1, e1, v0, v1, p1, k1⟩ := Sd n S j i 4 hp (by omega) (by decide) (by omega)
      have hgt : ∀ ρ : Ev, ρ[0]? = some (some (D.ref j)) → tTru (lBin gGt2 (lCall 2 gd' [] (aCons (lVar 0) (aCons (lC (.int 4)) aNil))) (lC (.int 0))) ρ S = .ok (decide (v > 0)) S1 := fun ρ h => tru_b (bin_ok (call_ok (acons_ok (by unfold lVar; rw [h]) (acons_ok rfl rfl)) rfl e1) rfl rfl) rfl
      by_cases hv : v > 0
      · rw [decide_eq_true hv] at hgt
        obtain ⟨u, S2, e2, u0, u1, p2, k2⟩ := Sd (n + 1) S1 j i (xs.length : Int) p1 (by omega) (by omega) (by omega)
        obtain ⟨x, hat, hxm⟩ := atI_mem (xs := xs) u0 u1
        obtain ⟨d', S3, e3, g3, p3, k3⟩ := So (n + 1 + 1) S2 j i x p2 (by omega) (hx x hxm)
        have c1 := @cutD_sub xs none (some u)
        have c2 := @cutD_sub xs (some (u + 1)) none
        refine ⟨.tup (MP.cutD xs none (some u) ++ [d'] ++ MP.cutD xs (some (u + 1)) none), S3, body_rt (seq_rt (if_tt (and_tt (hi _ _ rfl) (and_tt (hne _ _ rfl) (hgt _ rfl))) (seq_nx (set_ok (call_ok (acons_ok rfl (acons_ok (callb_ok (acons_ok rfl rfl) rfl) rfl)) rfl e2)) (ret_ok (bin_ok (bin_ok (slice_ok rfl rfl (osome_ok rfl) rfl) (tup_ok (acons_ok (call_ok (acons_ok rfl (acons_ok (bin_ok rfl rfl hat) rfl)) rfl e3) rfl) (by simp)) (tcatD (by simp only [List.length_cons, List.length_nil]; omega))) (slice_ok rfl (osome_ok (bin_ok rfl rfl add2_ii)) rfl rfl) (tcatD (by simp only [List.length_append, List.length_cons, List.length_nil]; omega))))))), ?_, p3.mono (by omega), (k1.trans k2).trans k3⟩
        refine .tup _ (by simp only [List.length_append, List.length_cons, List.length_nil]; omega) fun y hy => ?_
        have hg : ∀ z ∈ xs, Gd 60 z := fun z hz => (hs_gd k z (hx z hz)).up
        rcases List.mem_append.mp hy with hy | hy
        · rcases List.mem_append.mp hy with hy | hy
          · exact hg y (c1.1 y hy)
          · rw [List.mem_singleton.mp hy]; exact g3
        · exact hg y (c2.1 y hy)
      · rw [decide_eq_false hv] at hgt
        obtain ⟨d', S', e, g1, p2, k2⟩ := Sodd (n + 1) S1 j i _ p1 (by omega) hgd
        exact ⟨d', S', body_rt (seq_nx (if_ff (and_tt (hi _ _ rfl) (and_tt (hne _ _ rfl) (hgt _ rfl))) rfl) (ret_ok (call_ok (acons_ok rfl (acons_ok rfl rfl)) rfl e))), g1, p2.mono (by omega), k1.trans k2⟩
theorem ok_oth (T : T01 K mg) : ∀ k : Nat, k ≤ 10 → ∃ g, FnL P w K mg base (k + 6) T.f__law_otherwise T.fd__law_otherwise ["_law_pot_here", "_law_thing"] g ∧ SOth k g
  | 0, _ => by
    obtain ⟨g, F, h, _⟩ := oth_step (P := P) (w := w) (base := base) T 0 fn_bad
    exact ⟨g, F, h⟩
  | k + 1, hk => by
    obtain ⟨go, Fo, ho⟩ := ok_oth T k (by omega)
    obtain ⟨g, F, _, h⟩ := oth_step (P := P) (w := w) (base := base) T (k + 1) Fo
    exact ⟨g, F, h k (by omega) ho⟩
/-! ### two neighbours the other way about -/
def SExch (g : F) : Prop := ∀ (n : Int) (S : Sto) (j i : Nat) (xs : List D), PotAt j i n S → n < 10 ^ 26 → xs.length ≤ 29 → (∀ x ∈ xs, Gd 29 x) → ∃ (zs : List D) (S' : Sto), g [.ref j, .tup xs] S = .ok (.tup zs) S' ∧ Gd 60 (.tup zs) ∧ PotAt j i (n + 1) S' ∧ Keep2 j i S S'
theorem ok_exch (T : T01 K mg) : ∃ g, FnL P w K mg base 3 T.f__law_exchanged T.fd__law_exchanged ["_law_pot_here", "_law_row"] g ∧ SExch g := by
  obtain ⟨gd', Fn__law_draw, Sd⟩ := ok_draw (P := P) (w := w) (base := base) T
  refine ⟨_, Fun.okL T.F__law_exchanged sc__law_exchanged fun cdv A outer s H E hr =>
(pssl_cons (psl_if (ptl_cmp (opl_lt2 hr.units) (pel_callB (cl_len) rfl T.n_len (by decide +kernel) (pal_cons (pel_var (i := 1)) pal_nil)) pel_int) (pssl_one (psl_ret (pel_var (i := 1)))) pssl_nil)
  (pssl_cons (psl_set (i := 2) sc__law_exchanged.nd (pel_call Fn__law_draw (hr.mono (by decide)) rfl T.mg__law_draw T.F__law_draw.kp T.b__law_draw dfl_nil (pal_cons (pel_var (i := 0)) (pal_cons (pel_op opl_sub (pel_callB (cl_len) rfl T.n_len (by decide +kernel) (pal_cons (pel_var (i := 1)) pal_nil)) pel_int) pal_nil))))
  (pssl_one (psl_ret (pel_op opl_add2 (pel_op opl_add2 (pel_slice sll_any (pel_var (i := 1)) pol_none (pol_some (pel_var (i := 2)))) (pel_tup (pal_cons (pel_ix ixl_seq (pel_var (i := 1)) (pel_op opl_add2 (pel_var (i := 2)) pel_int)) (pal_cons (pel_ix ixl_seq (pel_var (i := 1)) (pel_var (i := 2))) pal_nil)))) (pel_slice sll_any (pel_var (i := 1)) (pol_some (pel_op opl_add2 (pel_var (i := 2)) pel_int)) pol_none)))))), ?_⟩
  intro n S j i xs hp hn hl hx
  have bb : (10 : Int) ^ 26 + 100 < 10 ^ 29 ∧ (1000 : Int) < 10 ^ 200 := by decide +kernel
  obtain ⟨bb1, bb2⟩ := bb
  have hg : ∀ z ∈ xs, Gd 60 z := fun z hz => (hx z hz).up
  have ht : tTru (lBin gLt2 (lCallB gLen (aCons (lVar 1) aNil)) (lC (.int 2))) [some (.ref j), some (.tup xs), none] S = .ok (decide ((xs.length : Int) < 2)) S := tru_b (bin_ok (callb_ok (acons_ok rfl rfl) rfl) rfl rfl) rfl
  by_cases h2 : (xs.length : Int) < 2
  · rw [decide_eq_true h2] at ht
    exact ⟨xs, S, body_rt (seq_rt (if_tt ht (ret_ok rfl))), .tup _ (by omega) hg, hp.mono (by omega), .refl⟩
  · rw [decide_eq_false h2] at ht
    obtain ⟨u, S1, e1, u0, u1, p1, k1⟩ := Sd n S j i ((xs.length : Int) - 1) hp (by omega) (by omega) (by omega)
    obtain ⟨x, hx1, mx⟩ := atI_mem (xs := xs) (v := u) u0 (by omega)
    obtain ⟨y, hy1, my⟩ := atI_mem (xs := xs) (v := u + 1) (by omega) (by omega)
    have c1 := @cutD_sub xs none (some u)
    have c2 := @cutD_sub xs (some (u + 2)) none
    refine ⟨MP.cutD xs none (some u) ++ [y, x] ++ MP.cutD xs (some (u + 2)) none, S1, body_rt (seq_nx (if_ff ht rfl) (seq_nx (set_ok (call_ok (acons_ok rfl (acons_ok (bin_ok (callb_ok (acons_ok rfl rfl) rfl) rfl rfl) rfl)) rfl e1)) (ret_ok (bin_ok (bin_ok (slice_ok rfl rfl (osome_ok rfl) rfl) (tup_ok (acons_ok (bin_ok rfl (bin_ok rfl rfl add2_ii) hy1) (acons_ok (bin_ok rfl rfl hx1) rfl)) (by simp)) (tcatD (by simp only [List.length_cons, List.length_nil]; omega))) (slice_ok rfl (osome_ok (bin_ok rfl rfl add2_ii)) rfl rfl) (tcatD (by simp only [List.length_append, List.length_cons, List.length_nil]; omega)))))), ?_, p1, k1⟩
    refine .tup _ (by simp only [List.length_append, List.length_cons, List.length_nil]; omega) fun z hz => ?_
    rcases List.mem_append.mp hz with hz | hz
    · rcases List.mem_append.mp hz with hz | hz
      · exact hg z (c1.1 z hz)
      · simp only [List.mem_cons, List.not_mem_nil, or_false] at hz
        rcases hz with rfl | rfl
        · exact hg _ my
        · exact hg _ mx
    · exact hg z (c2.1 z hz)
/-! ### asked of four parts -/
def SRight (g : F) : Prop := ∀ (S : Sto) (m b p q : D), Gd 60 (.tup [m, b, p, q]) → g [.tup [m, b, p, q]] S = .ok (.bl true) S
theorem gd_few {xs : List D} (h : Gd 60 (.tup xs)) : ∀ x ∈ xs, few x := fun x hx => (h.inv.2 x hx).few
theorem ok_right (T : T01 K mg) : ∃ g, FnL P w K mg base 6 T.f__law_right T.fd__law_right ["_law_four"] g ∧ SRight g := by
  obtain ⟨gc, Fn_is_circle, Sc⟩ := ok_circle (P := P) (w := w) (base := base) T
  obtain ⟨gl, Fn__law_is_circle, Sl⟩ := ok_lcircle (P := P) (w := w) (base := base) T
  refine ⟨_, Fun.okL T.F__law_right sc__law_right fun cdv A outer s H E hr =>
(pssl_cons (psl_set (i := 1) sc__law_right.nd (pel_call Fn_is_circle (hr.mono (by decide)) rfl T.mg_is_circle T.F_is_circle.kp T.b_is_circle dfl_nil (pal_cons (pel_ix ixl_seq (pel_var (i := 0)) pel_int) (pal_cons (pel_ix ixl_seq (pel_var (i := 0)) pel_int) (pal_cons (pel_ix ixl_seq (pel_var (i := 0)) pel_int) (pal_cons (pel_ix ixl_seq (pel_var (i := 0)) pel_int) pal_nil))))))
  (pssl_one (psl_ret (pel_and (pel_isi rfl T.n_isinstance (pel_var (i := 1)) (pe_bltn rfl T.n_bool (v := .ty "bool") (u := .type "bool") (by decide +kernel) rfl) (.ty _) isi_boolA) (pel_one (pel_cmp (opl_eq hr.units) (pel_var (i := 1)) (pel_call Fn__law_is_circle (hr.mono (by decide)) rfl T.mg__law_is_circle T.F__law_is_circle.kp T.b__law_is_circle dfl_nil (pal_cons (pel_var (i := 0)) pal_nil)))))))), ?_⟩
  intro S m b p q h
  obtain ⟨_, hx⟩ := h.inv
  have hm : Gd 60 m := hx m (by simp)
  have hb : Gd 60 b := hx b (by simp)
  have hp : Gd 60 p := hx p (by simp)
  have hq : Gd 60 q := hx q (by simp)
  have e1 := Sc S m b p q hm.in2 hb.in2 hp.in3 hq.plain hq.intOk
  have e2 := Sl S m b p q hm.in2 hb.in2 hb.few hp.in3 (fun xs e => by subst e; exact gd_few hp) hq.plain
  generalize hf : D.tup [m, b, p, q] = f at e2
  have i0 : ∀ ρ : Ev, ρ[0]? = some (some f) → lBin gIx (lVar 0) (lC (.int 0)) ρ S = .ok m S := fun ρ h => bin_ok (by unfold lVar; rw [h]) rfl (by rw [← hf]; rfl)
  have i1 : ∀ ρ : Ev, ρ[0]? = some (some f) → lBin gIx (lVar 0) (lC (.int 1)) ρ S = .ok b S := fun ρ h => bin_ok (by unfold lVar; rw [h]) rfl (by rw [← hf]; rfl)
  have i2 : ∀ ρ : Ev, ρ[0]? = some (some f) → lBin gIx (lVar 0) (lC (.int 2)) ρ S = .ok p S := fun ρ h => bin_ok (by unfold lVar; rw [h]) rfl (by rw [← hf]; rfl)
  have i3 : ∀ ρ : Ev, ρ[0]? = some (some f) → lBin gIx (lVar 0) (lC (.int 3)) ρ S = .ok q S := fun ρ h => bin_ok (by unfold lVar; rw [h]) rfl (by rw [← hf]; rfl)
  refine body_rt (seq_nx (set_ok (call_ok (acons_ok (i0 _ rfl) (acons_ok (i1 _ rfl) (acons_ok (i2 _ rfl) (acons_ok (i3 _ rfl) rfl)))) rfl e1)) (ret_ok (andv_tt (d := .bl true) (isi_ok rfl rfl) rfl (bin_ok rfl (call_ok (acons_ok rfl rfl) rfl e2) ?_))))
  rw [eq_bb, decide_eq_true rfl]
end
end K01

namespace K01
open PySem PySem.Spec PyProof.Rows L2 MP TL
open K06 (riP Cd cd_of cd_repr)
open K59 (Pr nm givs taks slt isL lets nm_ok sle sorted_strs)
/-! ### texts -/
def STexts (g : F) : Prop := ∀ (n : Int) (S : Sto) (j i : Nat), PotAt j i n S → n < 10 ^ 26 → ∃ (ys : List D) (S' : Sto), g [.ref j] S = .ok (.lst ys) S' ∧ ys.length = 8 ∧ (∀ y ∈ ys, Gd 60 y) ∧ PotAt j i (n + 100) S' ∧ Keep2 j i S S'
section
variable {P : Program} {w : World} {K : PySem.W.Frag} {mg : Str → Option Value} {base : Heap}
theorem ok_texts (T : T01 K mg) : ∃ g, FnL P w K mg base 4 T.f__law_texts T.fd__law_texts ["_law_pot_here"] g ∧ STexts g := by
  obtain ⟨gd, Fn__law_draw, Sd⟩ := ok_draw (P := P) (w := w) (base := base) T
  obtain ⟨gp, Fn__law_pick, Sp⟩ := ok_pick (P := P) (w := w) (base := base) T
  refine ⟨_, Fun.okL T.F__law_texts sc__law_texts fun cdv A outer s H E hr =>
(pssl_cons (psl_set (i := 1) sc__law_texts.nd (pel_lst pal_nil))
  (pssl_cons (psl_for (passes_of rfl) rfl (pil_val (pel_tup (pal_cons pel_int (pal_cons pel_int (pal_cons pel_int (pal_cons (pel_op opl_add2 pel_int (pel_call Fn__law_draw (hr.mono (by decide)) rfl T.mg__law_draw T.F__law_draw.kp T.b__law_draw dfl_nil (pal_cons (pel_var (i := 0)) (pal_cons pel_int pal_nil)))) pal_nil)))))) (pgl_name (i := 2) sc__law_texts.nd) (pssl_cons (psl_set (i := 3) sc__law_texts.nd (pel_strjoin pel_str (pel_lc (own := [("_law_k", 4)]) rfl sc__law_texts.nd (pil_range1 rfl T.n_range (pal_cons (pel_var (i := 2)) pal_nil)) (blkOk_by (N := N__law_texts) (sc := defScope s__law_texts) (by decide +kernel)) (fun _ _ _ _ _ => (pgl_name (i := 4) sc__law_texts.nd)) (fun _ _ _ _ _ => ptsl_nil) (fun _ _ _ _ _ => (pel_call Fn__law_pick (hr.mono (by decide)) rfl T.mg__law_pick T.F__law_pick.kp T.b__law_pick dfl_nil (pal_cons (pel_var (i := 0)) (pal_cons pel_str pal_nil)))))))
  (pssl_cons (psl_set (i := 5) sc__law_texts.nd (pel_call Fn__law_draw (hr.mono (by decide)) rfl T.mg__law_draw T.F__law_draw.kp T.b__law_draw dfl_nil (pal_cons (pel_var (i := 0)) (pal_cons (pel_var (i := 2)) pal_nil))))
  (pssl_one (psl_set (i := 1) sc__law_texts.nd (pel_op opl_add2 (pel_var (i := 1)) (pel_lst (pal_cons (pel_var (i := 3)) (pal_cons (pel_op opl_add2 (pel_op opl_add2 (pel_slice sll_any (pel_var (i := 3)) pol_none (pol_some (pel_var (i := 5)))) (pel_call Fn__law_pick (hr.mono (by decide)) rfl T.mg__law_pick T.F__law_pick.kp T.b__law_pick dfl_nil (pal_cons (pel_var (i := 0)) (pal_cons pel_str pal_nil)))) (pel_slice sll_any (pel_var (i := 3)) (pol_some (pel_op opl_add2 (pel_var (i := 5)) pel_int)) pol_none)) pal_nil)))))))))
  (pssl_one (psl_ret (pel_var (i := 1)))))), ?_⟩
  intro n S j i hp hn
  have bb : (10 : Int) ^ 26 + 1000 < 10 ^ 29 ∧ (1000 : Int) < 10 ^ 200 := by decide +kernel
  obtain ⟨bb1, bb2⟩ := bb
  have pickS : ∀ (z : Str) (l : Nat), z.length = l → 0 < l → l ≤ 100 → Tx 100 z → ∀ (n : Int) (S : Sto), PotAt j i n S → n < 10 ^ 29 → ∃ (x : Str) (S' : Sto), gp [.ref j, .str z] S = .ok (.str x) S' ∧ Tx 1 x ∧ PotAt j i (n + 1) S' ∧ Keep2 j i S S' := fun z l hl h0 h1 tz n S hp hn => by
    obtain ⟨y, S2, e2, ⟨x, rfl, tx⟩, p2, k2⟩ := Sp n S j i (.str z) (l : Int) (fun y => ∃ e, y = .str e ∧ Tx 1 e) hp hn (by rw [len_str (by omega), hl]) (by omega) (by omega) fun S' v _ v0 v1 => by
      obtain ⟨y, hy, ty⟩ := sign_at (S := S') (z := z) (v := v) tz (by decide) v0 (by omega)
      exact ⟨_, hy, y, rfl, ty⟩
    exact ⟨x, S2, e2, tx, p2, k2⟩
  have al : ∀ (n : Int) (S : Sto), PotAt j i n S → n < 10 ^ 29 → ∃ (x : Str) (S' : Sto), gp [.ref j, .str "abcdefghijklmnopqrstuvwxyz"] S = .ok (.str x) S' ∧ Tx 1 x ∧ PotAt j i (n + 1) S' ∧ Keep2 j i S S' := pickS _ 26 (by decide) (by decide) (by decide) (.lit (by decide))
  have ot : ∀ (n : Int) (S : Sto), PotAt j i n S → n < 10 ^ 29 → ∃ (x : Str) (S' : Sto), gp [.ref j, .str "A0- _`{\n"] S = .ok (.str x) S' ∧ Tx 1 x ∧ PotAt j i (n + 1) S' ∧ Keep2 j i S S' := pickS _ 8 (by decide) (by decide) (by decide) (.lit (by decide))
  have picks : ∀ (a1 a2 : Option D) (items : List D) (n : Int) (S : Sto), PotAt j i n S → n + items.length < 10 ^ 29 → ∃ (ys : List Str) (S' : Sto), compG (fun _ => True) (gtName 4) tYesL (lCall 2 gp [] (aCons (lVar 0) (aCons (lC (.str "abcdefghijklmnopqrstuvwxyz")) aNil))) [some (.ref j), a1, a2, none, none, none] items S = .ok (ys.map D.str) S' ∧ ys.length = items.length ∧ (∀ y ∈ ys, Tx 1 y) ∧ PotAt j i (n + items.length) S' ∧ Keep2 j i S S' := by
    intro a1 a2 items
    induction items with
    | nil => exact fun n S hp hn => ⟨[], S, comp_end trivial, rfl, by simp, hp.mono (by simp), .refl⟩
    | cons d items ih =>
      intro n S hp hn
      simp only [List.length_cons] at hn
      obtain ⟨x, S2, e2, tx, p2, k2⟩ := al n S hp (by omega)
      obtain ⟨ys, S3, e3, h3, t3, p3, k3⟩ := ih (n + 1) S2 p2 (by omega)
      refine ⟨x :: ys, S3, comp_go trivial rfl (call_ok (acons_ok rfl (acons_ok rfl rfl)) rfl e2) e3, by simp [h3], fun y hy => ?_, p3.mono (by simp only [List.length_cons]; omega), k2.trans k3⟩
      rcases List.mem_cons.mp hy with rfl | hy
      · exact tx
      · exact t3 y hy
  have hsum : ∀ ys : List Str, (∀ y ∈ ys, Tx 1 y) → (ys.map (·.length)).sum ≤ ys.length := by
    intro ys
    induction ys with
    | nil => intro _; simp
    | cons y ys ih =>
      intro h
      have a := ih fun x hx => h x (by simp [hx])
      have b := (h y (by simp)).1
      simp only [List.map_cons, List.sum_cons, List.length_cons]
      omega
  -- one pass
  have pass : ∀ (L : List D) (z n : Int) (S : Sto), L.length ≤ 100 → 1 ≤ z → z ≤ 13 → PotAt j i n S → n < 10 ^ 26 + 500 → ∃ (u v : D) (ρ' : Ev) (S' : Sto),
      lSeq (lSet 3 (lBM "str" stJoin (lC (.str "")) (aCons (lComp (lRange1 (aCons (lVar 2) aNil)) [4] (gtName 4) tYesL (lCall 2 gp [] (aCons (lVar 0) (aCons (lC (.str "abcdefghijklmnopqrstuvwxyz")) aNil)))) aNil)))
        (lSeq (lSet 5 (lCall 2 gd [] (aCons (lVar 0) (aCons (lVar 2) aNil))))
          (lSet 1 (lBin gAdd2 (lVar 1) (lLst (aCons (lVar 3) (aCons (lBin gAdd2 (lBin gAdd2 (lSlice gSlice (lVar 3) oNone (oSome (lVar 5))) (lCall 2 gp [] (aCons (lVar 0) (aCons (lC (.str "A0- _`{\n")) aNil)))) (lSlice gSlice (lVar 3) (oSome (lBin gAdd2 (lVar 5) (lC (.int 1)))) oNone)) aNil)))))) [some (.ref j), some (.lst L), some (.int z), none, none, none] S = .ok (.nx ρ') S' ∧
      wk [some (.ref j), some (.lst []), none, none, none, none] ρ' = [some (.ref j), some (.lst (L ++ [u, v])), none, none, none, none] ∧ Gd 60 u ∧ Gd 60 v ∧ PotAt j i (n + 20) S' ∧ Keep2 j i S S' := fun L z n S hL z0 z1 hp hn => by
    obtain ⟨st, S2, e2, l2, t2, p2, k2⟩ := picks (some (.lst L)) (some (.int z)) ((List.range z.toNat).map fun (i : Nat) => D.int (i : Int)) n S hp (by simp; omega)
    rw [List.length_map, List.length_range] at l2 p2
    have hcomp : lComp (lRange1 (aCons (lVar 2) aNil)) [4] (gtName 4) tYesL (lCall 2 gp [] (aCons (lVar 0) (aCons (lC (.str "abcdefghijklmnopqrstuvwxyz")) aNil))) [some (.ref j), some (.lst L), some (.int z), none, none, none] S = .ok (.lst (st.map D.str)) S2 :=
      comp_okL (range_ok (acons_ok rfl rfl) (by omega) (by omega)) (by simp; omega) e2
    have hjo : stJoin S2 (.str "") [.lst (st.map D.str)] = some (.str (Str.join "" st), S2) := by
      unfold stJoin
      dsimp only [vw]
      rw [strsD_map]
      dsimp only
      have hs := hsum st t2
      have e : ("" : Str).length = 0 := by decide
      rw [e, if_pos (by omega), join_eq]
    have tst := stem_tx st t2
    generalize Str.join "" st = word at hjo tst
    have hwl : word.length ≤ 13 := Nat.le_trans tst.1 (by omega)
    obtain ⟨at_, S3, e3, a0, a1, p3, k3⟩ := Sd (n + z.toNat) S2 j i z p2 (by omega) (by omega) (by omega)
    obtain ⟨x, S4, e4, tx, p4, k4⟩ := ot (n + z.toNat + 1) S3 p3 (by omega)
    have l1 := @ln_take word at_ a0
    have l3 := @ln_drop word (at_ + 1) (by omega)
    have lx := tx.1
    refine ⟨.str word, .str (cutS word none (some at_) ++ x ++ cutS word (some (at_ + 1)) none), _, S4, seq_nx (set_ok (bms_ok rfl (acons_ok hcomp rfl) hjo)) (seq_nx (set_ok (call_ok (acons_ok rfl (acons_ok rfl rfl)) rfl e3)) (set_ok (bin_ok rfl (lst_ok (acons_ok rfl (acons_ok (bin_ok (bin_ok (slice_ok rfl rfl (osome_ok rfl) (slS (by omega))) (call_ok (acons_ok rfl (acons_ok rfl rfl)) rfl e4) (add2_ss (sz (by omega)))) (slice_ok rfl (osome_ok (bin_ok rfl rfl add2_ii)) rfl (slS (by omega))) (add2_ss (sz (by rw [len_app']; omega)))) rfl)) (by simp)) (catL rfl rfl rfl (by rw [List.length_append]; simp only [List.length_cons, List.length_nil]; omega))))), rfl, .str _ (by omega), .str _ (by rw [len_app', len_app']; omega), p4.mono (by omega), (k2.trans k3).trans k4⟩
  obtain ⟨v, S1, e1, v0, v1, p1, k1⟩ := Sd n S j i 13 hp (by omega) (by decide) (by omega)
  obtain ⟨u1, w1, ρ1, T1, f1, q1, gu1, gw1, r1, x1⟩ := pass [] 1 (n + 1) S1 (by simp) (by omega) (by omega) p1 (by omega)
  obtain ⟨u2, w2, ρ2, T2, f2, q2, gu2, gw2, r2, x2⟩ := pass ([] ++ [u1, w1]) 12 (n + 1 + 20) T1 (by simp) (by omega) (by omega) r1 (by omega)
  obtain ⟨u3, w3, ρ3, T3, f3, q3, gu3, gw3, r3, x3⟩ := pass ([] ++ [u1, w1] ++ [u2, w2]) 13 (n + 1 + 20 + 20) T2 (by simp) (by omega) (by omega) r2 (by omega)
  obtain ⟨u4, w4, ρ4, T4, f4, q4, gu4, gw4, r4, x4⟩ := pass ([] ++ [u1, w1] ++ [u2, w2] ++ [u3, w3]) (1 + v) (n + 1 + 20 + 20 + 20) T3 (by simp) (by omega) (by omega) r3 (by omega)
  refine ⟨[] ++ [u1, w1] ++ [u2, w2] ++ [u3, w3] ++ [u4, w4], T4, body_rt (seq_nx (set_ok (lst_ok rfl (by simp))) (seq_nx (for_ok (iter_ok (tup_ok (acons_ok rfl (acons_ok rfl (acons_ok rfl (acons_ok (bin_ok rfl (call_ok (acons_ok rfl (acons_ok rfl rfl)) rfl e1) add2_ii) rfl)))) (by simp)) rfl) (for_go trivial rfl f1 ?_)) (ret_ok (ρ := [some (.ref j), some (.lst ([] ++ [u1, w1] ++ [u2, w2] ++ [u3, w3] ++ [u4, w4])), none, none, none, none]) rfl))), rfl, fun y hy => ?_, r4.mono (by omega), (((k1.trans x1).trans x2).trans x3).trans x4⟩
  · show forG _ _ _ _ _ (wk [some (.ref j), some (.lst []), none, none, none, none] ρ1) _ = _
    rw [q1]
    refine for_go trivial rfl f2 ?_
    show forG _ _ _ _ _ (wk [some (.ref j), some (.lst []), none, none, none, none] ρ2) _ = _
    rw [q2]
    refine for_go trivial rfl f3 ?_
    show forG _ _ _ _ _ (wk [some (.ref j), some (.lst []), none, none, none, none] ρ3) _ = _
    rw [q3]
    refine for_go trivial rfl f4 ?_
    show forG _ _ _ _ _ (wk [some (.ref j), some (.lst []), none, none, none, none] ρ4) _ = _
    rw [q4]
    exact for_end trivial
  · simp only [List.nil_append, List.cons_append, List.mem_cons, List.not_mem_nil, or_false] at hy
    rcases hy with rfl | rfl | rfl | rfl | rfl | rfl | rfl | rfl
    · exact gu1
    · exact gw1
    · exact gu2
    · exact gw2
    · exact gu3
    · exact gw3
    · exact gu4
    · exact gw4
end
end K01

namespace K01
open PySem PySem.Spec PyProof.Rows L2 MP TL
open K06 (riP Cd cd_of cd_repr)
open K59 (Pr nm givs taks slt isL lets nm_ok sle sorted_strs)
/-! ### the four parts that are drawn -/
theorem nm_len {x : Str} (h : nm x = true) : x.length ≤ 12 := by
  unfold nm at h
  rw [Bool.and_eq_true] at h
  exact (of_decide_eq_true h.1).2
theorem leaf_nm {x : Str} (h : nm x = true) : leaf (.str x) := .inl ⟨x, rfl, nm_ok h, nm_len h⟩
theorem leaf_hs {x : Str} (h : K01.hsOk x) : leaf (.str x) := by
  rcases h with rfl | h
  · exact .inl ⟨_, rfl, (show Cd Str.empty from fun c hc => by cases hc).ok, by decide⟩
  · exact leaf_nm h
theorem hs_pr {p : Pr} (h1 : leaf (.str p.1)) (h2 : leaf (.str p.2)) : hs 1 (pD p) := .inr ⟨_, rfl, by simp, fun x hx => by
  simp only [List.mem_cons, List.not_mem_nil, or_false] at hx
  rcases hx with rfl | rfl
  · exact h1
  · exact h2⟩
theorem hs_ps {ps : List Pr} (hl : ps.length ≤ 29) (h : ∀ p ∈ ps, leaf (.str p.1) ∧ leaf (.str p.2)) : hs 2 (.tup (psD ps)) := .inr ⟨_, rfl, by rw [psD_len]; exact hl, fun x hx => by
  obtain ⟨p, hp, rfl⟩ := List.mem_map.mp hx
  exact hs_pr (h p hp).1 (h p hp).2⟩
theorem hs_up : ∀ {k : Nat} {d : D}, hs k d → hs (k + 1) d
  | 0, d, h => .inl h
  | k + 1, d, h => by
    rcases h with h | ⟨xs, e, hl, h⟩
    · exact .inl h
    · exact .inr ⟨xs, e, hl, fun x hx => hs_up (h x hx)⟩
theorem mbs_ps {ms : List Pr} (h : ∀ p ∈ ms, nm p.1 = true ∧ hsOk p.2) (hr : riseS (givs ms) = true) : mbsD (.tup (psD ms)) = true := by
  have e : (psD ms).map mnm = givs ms := by
    unfold psD givs
    rw [List.map_map]
    rfl
  show ((psD ms).all mbD && riseS ((psD ms).map mnm)) = true
  rw [e, hr, Bool.and_true, List.all_eq_true]
  intro x hx
  obtain ⟨p, hp, rfl⟩ := List.mem_map.mp hx
  obtain ⟨h1, h2⟩ := h p hp
  show (nm p.1 && (nm p.2 || decide (p.2 = Str.empty))) = true
  rw [h1, Bool.true_and, Bool.or_eq_true]
  exact h2.elim (fun z => .inr (decide_eq_true z)) .inl
theorem yrs_ps {ys : List (List Pr)} (h : ∀ y ∈ ys, y.length ≤ 26 ∧ (∀ p ∈ y, nmP p) ∧ rsP y = true) : yrsD (.tup (ys.map yrD)) = true := by
  show (ys.map yrD).all prsD = true
  rw [List.all_eq_true]
  intro x hx
  obtain ⟨y, hy, rfl⟩ := List.mem_map.mp hx
  show prsD (.tup (psD y)) = true
  rw [prsD_ps (h y hy).2.1, (h y hy).2.2]
def Four (d : D) : Prop := ∃ m b p q, d = .tup [m, b, p, q] ∧ Gd 60 d
theorem four_of {m b p q : D} (hm : Gd 60 m) (hb : Gd 60 b) (hp : Gd 60 p) (hq : Gd 60 q) : Four (.tup [m, b, p, q]) := ⟨m, b, p, q, rfl, .tup _ (by simp) fun x hx => by
  simp only [List.mem_cons, List.not_mem_nil, or_false] at hx
  rcases hx with rfl | rfl | rfl | rfl
  · exact hm
  · exact hb
  · exact hp
  · exact hq⟩
/-- no such of four parts, or one -/
def bentOf (d : D) : List D := match d with
  | .tup [a, b, c, e] => [.tup [a, b, c, e]]
  | _ => []
theorem bent_four {d : D} (h : Gd 60 d) : ∀ x ∈ bentOf d, Four x := fun x hx => by
  unfold bentOf at hx
  split at hx
  · rw [List.mem_singleton.mp hx]
    exact ⟨_, _, _, _, rfl, h⟩
  · cases hx
theorem bent_len {d : D} : (bentOf d).length ≤ 1 := by
  unfold bentOf
  split <;> simp
theorem bent_ok {d : D} (h : Gd 60 d) {ρ : Ev} {S : Sto} (hρ : ρ[7]? = some (some d)) :
    lBin gMulX (lLst (aCons (lVar 7) aNil)) (lCallB gInt1 (aCons (lAndV (lIsi tabTupA (lVar 7)) (lBin gEq (lCallB gLen (aCons (lVar 7) aNil)) (lC (.int 4)))) aNil)) ρ S = .ok (.lst (bentOf d)) S := by
  have hv : lVar 7 ρ S = .ok d S := by unfold lVar; rw [hρ]
  have hl : lLst (aCons (lVar 7) aNil) ρ S = .ok (.lst [d]) S := lst_ok (acons_ok hv rfl) (by simp)
  have key : ∀ b : Bool, lAndV (lIsi tabTupA (lVar 7)) (lBin gEq (lCallB gLen (aCons (lVar 7) aNil)) (lC (.int 4))) ρ S = .ok (.bl b) S → (if b then [d] else []) = bentOf d → lBin gMulX (lLst (aCons (lVar 7) aNil)) (lCallB gInt1 (aCons (lAndV (lIsi tabTupA (lVar 7)) (lBin gEq (lCallB gLen (aCons (lVar 7) aNil)) (lC (.int 4)))) aNil)) ρ S = .ok (.lst (bentOf d)) S := fun b hb e => by
    rw [← e]
    cases b with
    | false => exact bin_ok hl (callb_ok (acons_ok hb rfl) rfl) (mulx_lst (k := 0) (by decide) (by decide) (by simp))
    | true => exact bin_ok hl (callb_ok (acons_ok hb rfl) rfl) (mulx_lst (k := 1) (by decide) (by decide) (by simp))
  cases h with
  | tup xs hx _ =>
    have h1 : lBin gEq (lCallB gLen (aCons (lVar 7) aNil)) (lC (.int 4)) ρ S = .ok (.bl (decide ((xs.length : Int) = 4))) S := bin_ok (callb_ok (acons_ok hv rfl) rfl) rfl eq_ii
    refine key _ (andv_tt (d := .bl true) (isi_ok hv rfl) rfl h1) ?_
    match xs with
    | [] => rfl
    | [_] => rfl
    | [_, _] => rfl
    | [_, _, _] => rfl
    | [_, _, _, _] => rfl
    | a :: b :: c :: e :: f :: r =>
      rw [decide_eq_false (by simp only [List.length_cons]; omega)]
      rfl
  | _ => exact key false (andv_ff (d := .bl false) (isi_ok hv rfl) rfl) rfl
def SLaw (g : F) : Prop := ∀ (ns : List Int), ns.length ≤ 63 → ∃ S', g [.lst (ns.map D.int)] [] = .ok (.bl true) S'
section
variable {P : Program} {w : World} {K : PySem.W.Frag} {mg : Str → Option Value} {base : Heap}
/-- twelve otherwise -/
theorem otherwise_ok {go : F} (So : SOth 4 go) {j i : Nat} {d : D} (hd : hs 4 d) {a0 a2 a5 : Option D} {L0 : List D} :
    ∀ (ks : List Int) (n : Int) (S : Sto) (L : List D), PotAt j i n S → n + 9 * ks.length < 10 ^ 26 → L.length + ks.length ≤ 100 → (∀ z ∈ L, Four z) → ∃ (L' : List D) (S' : Sto),
      forG [a0, some (.ref j), a2, some d, some (.lst L0), none, none, none, none, none, none] (fun _ => True) (gtName 6) (lSeq (lSet 7 (lCall 2 go [] (aCons (lVar 1) (aCons (lVar 3) aNil)))) (lSet 4 (lBin gAdd2 (lVar 4) (lBin gMulX (lLst (aCons (lVar 7) aNil)) (lCallB gInt1 (aCons (lAndV (lIsi tabTupA (lVar 7)) (lBin gEq (lCallB gLen (aCons (lVar 7) aNil)) (lC (.int 4)))) aNil)))))) (ks.map D.int) [a0, some (.ref j), a2, some d, some (.lst L), none, none, none, none, none, none] S = .ok (.nx [a0, some (.ref j), a2, some d, some (.lst L'), none, none, none, none, none, none]) S' ∧ L'.length ≤ L.length + ks.length ∧ (∀ z ∈ L', Four z) ∧ PotAt j i (n + 9 * ks.length) S' ∧ Keep2 j i S S'
  | [], n, S, L, hp, hn, hl, hL => ⟨L, S, for_end trivial, by simp, hL, hp.mono (by simp), .refl⟩
  | k :: ks, n, S, L, hp, hn, hl, hL => by
    simp only [List.length_cons] at hn hl
    obtain ⟨z, S1, e1, g1, p1, k1⟩ := So n S j i d hp (by omega) hd
    have hb := @bent_len z
    obtain ⟨L', S2, e2, l2, g2, p2, k2⟩ := otherwise_ok So hd (a0 := a0) (a2 := a2) (a5 := a5) (L0 := L0) ks (n + 9) S1 (L ++ bentOf z) (p1.mono (by omega)) (by omega) (by rw [List.length_append]; omega) fun y hy => (List.mem_append.mp hy).elim (hL y) (bent_four g1 y)
    rw [List.length_append] at l2
    refine ⟨L', S2, for_go trivial rfl (seq_nx (set_ok (call_ok (acons_ok rfl (acons_ok rfl rfl)) rfl e1)) (set_ok (bin_ok rfl (bent_ok g1 rfl) (catL rfl rfl rfl (by rw [List.length_append]; omega))))) ?_, by simp only [List.length_cons]; omega, g2, p2.mono (by simp only [List.length_cons]; omega), k1.trans k2⟩
    cases a0 <;> cases a2 <;> exact e2
end
end K01

namespace K01
open PySem PySem.Spec PyProof.Rows L2 MP TL
open K06 (riP Cd cd_of cd_repr)
open K59 (Pr nm givs taks slt isL lets nm_ok sle sorted_strs)
/-! ### the law -/
theorem neB {S : Sto} (b : Bool) : gNe S (.bl b) (.bl b) = some (.bl false) := by
  have h : gNe S (.bl b) (.bl b) = some (.bl (!decide (b = b))) := rfl
  rw [h, decide_eq_true rfl]
  rfl
theorem par_hs {ms bs : List Pr} {ys : List (List Pr)} {gap : Int} (hm : MbsOk ms) (bl : bs.length ≤ 13) (bn : ∀ p ∈ bs, nmP p) (hy : YrsOk ys) (g0 : 0 ≤ gap) (g1 : gap < 10 ^ 30) : hs 4 (.tup [.tup (psD ms), .tup (psD bs), .tup (ys.map yrD), .int gap]) := .inr ⟨_, rfl, by simp, fun x hx => by
  simp only [List.mem_cons, List.not_mem_nil, or_false] at hx
  rcases hx with rfl | rfl | rfl | rfl
  · exact hs_up (hs_ps (Nat.le_trans hm.1 (by decide)) fun p hp => ⟨leaf_nm (hm.2.1 p hp).1, leaf_hs (hm.2.1 p hp).2⟩)
  · exact hs_up (hs_ps (by omega) fun p hp => ⟨leaf_nm (bn p hp).1, leaf_nm (bn p hp).2⟩)
  · refine .inr ⟨_, rfl, by rw [List.length_map]; exact Nat.le_trans hy.1 (by decide), fun y hy' => ?_⟩
    obtain ⟨z, hz, rfl⟩ := List.mem_map.mp hy'
    obtain ⟨zl, zn, _⟩ := hy.2 z hz
    exact hs_ps (Nat.le_trans zl (by decide)) fun p hp => ⟨leaf_nm (zn p hp).1, leaf_nm (zn p hp).2⟩
  · exact .inl (.inr ⟨_, rfl, g0, by omega⟩)⟩
theorem par_cr {ms bs : List Pr} {ys : List (List Pr)} {gap : Int} (hm : MbsOk ms) (bn : ∀ p ∈ bs, nmP p) (br : rsP bs = true) (hy : YrsOk ys) (g0 : 0 ≤ gap) (g1 : gap < 10 ^ 30) : crD (.tup (psD ms)) (.tup (psD bs)) (.tup (ys.map yrD)) (.int gap) = true := by
  have e1 := mbs_ps hm.2.1 hm.2.2
  have e2 : prsD (.tup (psD bs)) = true := by rw [prsD_ps bn, br]
  have e3 := yrs_ps hy.2
  have e4 : gapD (.int gap) = true := decide_eq_true ⟨g0, g1⟩
  unfold crD
  rw [e1, e2, e3, e4]
  simp
section
variable {P : Program} {w : World} {K : PySem.W.Frag} {mg : Str → Option Value} {base : Heap}
theorem ok_law (T : T01 K mg) : ∃ g, FnL P w K mg base 11 T.f_law T.fd_law ["_law_script"] g ∧ SLaw g := by
  obtain ⟨gpo, Fn__law_pot, Spo⟩ := ok_pot (P := P) (w := w) (base := base) T
  obtain ⟨gdr, Fn__law_draw, Sd⟩ := ok_draw (P := P) (w := w) (base := base) T
  obtain ⟨gpa, Fn__law_parts, Spa⟩ := ok_parts (P := P) (w := w) (base := base) T
  obtain ⟨gx, Fn__law_exchanged, Sx⟩ := ok_exch (P := P) (w := w) (base := base) T
  obtain ⟨go, Fn__law_otherwise, So⟩ := ok_oth (P := P) (w := w) (base := base) T 4 (by decide)
  obtain ⟨gr, Fn__law_right, Sr⟩ := ok_right (P := P) (w := w) (base := base) T
  obtain ⟨gc, Fn_is_circle, Sc⟩ := ok_circle (P := P) (w := w) (base := base) T
  obtain ⟨gt, Fn__law_texts, St⟩ := ok_texts (P := P) (w := w) (base := base) T
  obtain ⟨gn, Fn_is_name, Sn⟩ := ok_name (P := P) (w := w) (base := base) T
  obtain ⟨gl, Fn__law_is_name, Sl⟩ := ok_lname (P := P) (w := w) (base := base) T
  refine ⟨_, Fun.okL T.F_law sc_law fun cdv A outer s H E hr =>
(pssl_cons (psl_set (i := 1) sc_law.nd (pel_call Fn__law_pot (hr.mono (by decide)) rfl T.mg__law_pot T.F__law_pot.kp T.b__law_pot dfl_nil (pal_cons (pel_var (i := 0)) pal_nil)))
  (pssl_cons (psl_for (passes_of rfl) rfl (pil_range1 rfl T.n_range (pal_cons (pel_callB (cl_max2 rfl) rfl T.n_max (by decide +kernel) (pal_cons pel_int (pal_cons (pel_callB (cl_min2 rfl) rfl T.n_min (by decide +kernel) (pal_cons (pel_callB (cl_len) rfl T.n_len (by decide +kernel) (pal_cons (pel_var (i := 0)) pal_nil)) (pal_cons pel_int pal_nil))) pal_nil))) pal_nil)) (pgl_name (i := 2) sc_law.nd) (pssl_cons (psl_set (i := 3) sc_law.nd (pel_slice sll_any (pel_call Fn__law_parts (hr.mono (by decide)) rfl T.mg__law_parts T.F__law_parts.kp T.b__law_parts dfl_nil (pal_cons (pel_var (i := 1)) (pal_cons (pel_ifExp (ptl_cmp (opl_eq hr.units) (pel_op opl_add2 (pel_call Fn__law_draw (hr.mono (by decide)) rfl T.mg__law_draw T.F__law_draw.kp T.b__law_draw dfl_nil (pal_cons (pel_var (i := 1)) (pal_cons pel_int pal_nil))) (pel_var (i := 2))) pel_int) pel_int pel_int) pal_nil))) pol_none (pol_some pel_int)))
  (pssl_cons (psl_set (i := 4) sc_law.nd (pel_lst (pal_cons (pel_var (i := 3)) (pal_cons (pel_tup (pal_cons (pel_ix ixl_seq (pel_var (i := 3)) pel_int) (pal_cons pel_non (pal_cons pel_non (pal_cons (pel_ix ixl_seq (pel_var (i := 3)) pel_int) pal_nil))))) (pal_cons (pel_tup (pal_cons (pel_ix ixl_seq (pel_var (i := 3)) pel_int) (pal_cons (pel_ix ixl_seq (pel_var (i := 3)) pel_int) (pal_cons pel_non (pal_cons pel_int pal_nil))))) (pal_cons (pel_tup (pal_cons (pel_tup pal_nil) (pal_cons (pel_tup pal_nil) (pal_cons (pel_tup pal_nil) (pal_cons pel_int pal_nil))))) pal_nil))))))
  (pssl_cons (psl_set (i := 4) sc_law.nd (pel_op opl_add2 (pel_var (i := 4)) (pel_lc (own := [("_law_far", 5)]) rfl sc_law.nd (pil_val (pel_tup (pal_cons (pel_op opl_sub (pel_op opl_pow pel_int pel_int) pel_int) (pal_cons (pel_op opl_pow pel_int pel_int) (pal_cons (pel_un unl_neg pel_int) pal_nil))))) (blkOk_by (N := N_law) (sc := defScope s_law) (by decide +kernel)) (fun _ _ _ _ _ => (pgl_name (i := 5) sc_law.nd)) (fun _ _ _ _ _ => ptsl_nil) (fun _ _ _ _ _ => (pel_op opl_add2 (pel_slice sll_any (pel_var (i := 3)) pol_none (pol_some pel_int)) (pel_tup (pal_cons (pel_var (i := 5)) pal_nil)))))))
  (pssl_cons (psl_set (i := 4) sc_law.nd (pel_op opl_add2 (pel_var (i := 4)) (pel_lst (pal_cons (pel_tup (pal_cons (pel_call Fn__law_exchanged (hr.mono (by decide)) rfl T.mg__law_exchanged T.F__law_exchanged.kp T.b__law_exchanged dfl_nil (pal_cons (pel_var (i := 1)) (pal_cons (pel_ix ixl_seq (pel_var (i := 3)) pel_int) pal_nil))) (pal_cons (pel_ix ixl_seq (pel_var (i := 3)) pel_int) (pal_cons (pel_ix ixl_seq (pel_var (i := 3)) pel_int) (pal_cons (pel_ix ixl_seq (pel_var (i := 3)) pel_int) pal_nil))))) pal_nil))))
  (pssl_cons (psl_set (i := 4) sc_law.nd (pel_op opl_add2 (pel_var (i := 4)) (pel_lst (pal_cons (pel_tup (pal_cons (pel_ix ixl_seq (pel_var (i := 3)) pel_int) (pal_cons (pel_call Fn__law_exchanged (hr.mono (by decide)) rfl T.mg__law_exchanged T.F__law_exchanged.kp T.b__law_exchanged dfl_nil (pal_cons (pel_var (i := 1)) (pal_cons (pel_ix ixl_seq (pel_var (i := 3)) pel_int) pal_nil))) (pal_cons (pel_ix ixl_seq (pel_var (i := 3)) pel_int) (pal_cons (pel_ix ixl_seq (pel_var (i := 3)) pel_int) pal_nil))))) pal_nil))))
  (pssl_cons (psl_for (passes_of rfl) rfl (pil_range1 rfl T.n_range (pal_cons pel_int pal_nil)) (pgl_name (i := 6) sc_law.nd) (pssl_cons (psl_set (i := 7) sc_law.nd (pel_call Fn__law_otherwise (hr.mono (by decide)) rfl T.mg__law_otherwise T.F__law_otherwise.kp T.b__law_otherwise dfl_nil (pal_cons (pel_var (i := 1)) (pal_cons (pel_var (i := 3)) pal_nil))))
  (pssl_one (psl_set (i := 4) sc_law.nd (pel_op opl_add2 (pel_var (i := 4)) (pel_op opl_mulX (pel_lst (pal_cons (pel_var (i := 7)) pal_nil)) (pel_callTy (cl_int1) rfl T.n_int (by decide +kernel) (pal_cons (pel_and (pel_isi rfl T.n_isinstance (pel_var (i := 7)) (pe_bltn rfl T.n_tuple (v := .ty "tuple") (u := .type "tuple") (by decide +kernel) rfl) (.ty _) isi_tupleA) (pel_one (pel_cmp (opl_eq hr.units) (pel_callB (cl_len) rfl T.n_len (by decide +kernel) (pal_cons (pel_var (i := 7)) pal_nil)) pel_int))) pal_nil))))))))
  (pssl_cons (psl_if (PWL.pt (pwl_or (ptl_not (ptl_truth (pel_callB (cl_all rfl) rfl T.n_all (by decide +kernel) (pal_cons (pel_lc (own := [("_law_one", 8)]) rfl sc_law.nd (pil_val (pel_var (i := 4))) (blkOk_by (N := N_law) (sc := defScope s_law) (by decide +kernel)) (fun _ _ _ _ _ => (pgl_name (i := 8) sc_law.nd)) (fun _ _ _ _ _ => ptsl_nil) (fun _ _ _ _ _ => (pel_call Fn__law_right (hr.mono (by decide)) rfl T.mg__law_right T.F__law_right.kp T.b__law_right dfl_nil (pal_cons (pel_var (i := 8)) pal_nil)))) pal_nil)))) (pwl_or1 (ptl_cmp opl_notB (pel_call Fn_is_circle (hr.mono (by decide)) rfl T.mg_is_circle T.F_is_circle.kp T.b_is_circle dfl_nil (pal_cons (pel_ix ixl_seq (pel_var (i := 3)) pel_int) (pal_cons (pel_ix ixl_seq (pel_var (i := 3)) pel_int) (pal_cons (pel_ix ixl_seq (pel_var (i := 3)) pel_int) (pal_cons (pel_ix ixl_seq (pel_var (i := 3)) pel_int) pal_nil))))) pel_bl)))) (pssl_one (psl_ret pel_bl)) pssl_nil)
  (pssl_one (psl_for (passes_of rfl) rfl (pil_val (pel_op opl_add2 (pel_call Fn__law_texts (hr.mono (by decide)) rfl T.mg__law_texts T.F__law_texts.kp T.b__law_texts dfl_nil (pal_cons (pel_var (i := 1)) pal_nil)) (pel_lst (pal_cons pel_str (pal_cons pel_non (pal_cons pel_int (pal_cons pel_bl (pal_cons (pel_tup (pal_cons pel_str pal_nil)) (pal_cons (pel_lst (pal_cons pel_str pal_nil)) (pal_cons pel_disp1i (pal_cons (pel_tup pal_nil) (pal_cons (pel_var (i := 3)) pal_nil)))))))))))) (pgl_name (i := 9) sc_law.nd) (pssl_cons (psl_set (i := 10) sc_law.nd (pel_call Fn_is_name (hr.mono (by decide)) rfl T.mg_is_name T.F_is_name.kp T.b_is_name dfl_nil (pal_cons (pel_var (i := 9)) pal_nil)))
  (pssl_one (psl_if (PWL.pt (pwl_or (ptl_not (ptl_truth (pel_isi rfl T.n_isinstance (pel_var (i := 10)) (pe_bltn rfl T.n_bool (v := .ty "bool") (u := .type "bool") (by decide +kernel) rfl) (.ty _) isi_boolA))) (pwl_or1 (ptl_cmp (opl_ne hr.units) (pel_var (i := 10)) (pel_call Fn__law_is_name (hr.mono (by decide)) rfl T.mg__law_is_name T.F__law_is_name.kp T.b__law_is_name dfl_nil (pal_cons (pel_var (i := 9)) pal_nil)))))) (pssl_one (psl_ret pel_bl)) pssl_nil)))))))))))))
  (pssl_one (psl_ret pel_bl)))), ?_⟩
  intro ns hns
  have bb : (100000 : Int) < 10 ^ 25 ∧ (10 : Int) ^ 25 + 100000 < 10 ^ 26 ∧ (10 : Int) ^ 26 < 10 ^ 29 ∧ (1000 : Int) < 10 ^ 200 ∧ (0 : Int) < 10 ^ 30 ∧ (10 : Int) ^ 30 < 10 ^ 31 := by decide +kernel
  obtain ⟨bb1, bb2, bb3, bb4, bb5, bb6⟩ := bb
  obtain ⟨j, i, S0, e0, p0⟩ := Spo [] ns hns
  obtain ⟨sc, hsc⟩ : ∃ sc, sc = D.lst (ns.map D.int) := ⟨_, rfl⟩
  rw [← hsc] at e0
  have hcnt : ∃ v : Int, 0 ≤ v ∧ v ≤ 5 ∧ ∀ S, lCallB gMax2 (aCons (lC (.int 1)) (aCons (lCallB gMin2 (aCons (lCallB gLen (aCons (lVar 0) aNil)) (aCons (lC (.int 5)) aNil))) aNil)) [some sc, some (.ref j), none, none, none, none, none, none, none, none, none] S = .ok (.int v) S := by
    refine ⟨_, ?_, ?_, fun S => callb_ok (acons_ok rfl (acons_ok (callb_ok (acons_ok (callb_ok (acons_ok rfl rfl) (show gLen S [sc] = some (.int (ns.length : Int)) by rw [hsc]; show some (D.int ((ns.map D.int).length : Int)) = _; rw [List.length_map])) (acons_ok rfl rfl)) rfl) rfl)) rfl⟩
    · split <;> split <;> omega
    · split <;> split <;> omega
  obtain ⟨v, v0, v5, hv⟩ := hcnt
  rw [← hsc]
  refine shell (ρ1 := [some sc, some (.ref j), none, none, none, none, none, none, none, none, none]) (it := ⟨(List.range v.toNat).map fun (i : Nat) => D.int (i : Int), fun _ => True⟩) (S1 := S0)
    (I := fun k S => PotAt j i (5000 * k) S) (set_ok (call_ok (acons_ok rfl rfl) rfl e0)) (range_ok (acons_ok (hv _) rfl) v0 (by omega)) (fun _ => trivial) (p0.mono (by omega)) ?_ fun S => ret_ok rfl
  intro d hd k S hp hk
  obtain ⟨t, ht, rfl⟩ := List.mem_map.mp hd
  have hk5 : k < 5 := by
    have : k < v.toNat := by simpa using hk
    omega
  generalize hn : (5000 : Int) * (k : Int) = n at hp
  have hn0 : n ≤ 25000 := by omega
  -- the parts
  obtain ⟨u, S1, e1, u0, u1, p1, k1⟩ := Sd n S j i 4 hp (by omega) (by decide) (by omega)
  obtain ⟨most, hmost, m0, m24⟩ : ∃ most : Int, lIf (tTru (lBin gEq (lBin gAdd2 (lCall 2 gdr [] (aCons (lVar 1) (aCons (lC (.int 4)) aNil))) (lVar 2)) (lC (.int 0)))) (lC (.int 24)) (lC (.int 6)) [some sc, some (.ref j), some (.int (t : Int)), none, none, none, none, none, none, none, none] S = .ok (.int most) S1 ∧ 0 ≤ most ∧ most ≤ 24 := by
    have h : tTru (lBin gEq (lBin gAdd2 (lCall 2 gdr [] (aCons (lVar 1) (aCons (lC (.int 4)) aNil))) (lVar 2)) (lC (.int 0))) [some sc, some (.ref j), some (.int (t : Int)), none, none, none, none, none, none, none, none] S = .ok (decide (u + t = 0)) S1 := tru_b (bin_ok (bin_ok (call_ok (acons_ok rfl (acons_ok rfl rfl)) rfl e1) rfl add2_ii) rfl eq_ii) rfl
    by_cases q : u + t = 0
    · rw [decide_eq_true q] at h
      exact ⟨24, ife_tt h rfl, by decide, by decide⟩
    · rw [decide_eq_false q] at h
      exact ⟨6, ife_ff h rfl, by decide, by decide⟩
  obtain ⟨ms, bs, ys, gap, dd, S2, e2, hmb, bl, bn, br, hyr, g0, g1, p2, k2⟩ := Spa (n + 1) S1 j i most p1 (by omega) m0 m24
  have hH := par_hs hmb bl bn hyr g0 g1
  have hC := par_cr hmb bn br hyr g0 g1
  have hG := (hs_gd 4 _ hH).up
  have hM : Gd 60 (.tup (psD ms)) := hG.inv.2 _ (by simp)
  have hB : Gd 60 (.tup (psD bs)) := hG.inv.2 _ (by simp)
  have hY : Gd 60 (.tup (ys.map yrD)) := hG.inv.2 _ (by simp)
  have hQ : Gd 60 (.int gap) := hG.inv.2 _ (by simp)
  have hG29 := (hs_gd 4 _ hH).inv.2
  have iM := (hG29 (.tup (psD ms)) (by simp)).inv
  have iB := (hG29 (.tup (psD bs)) (by simp)).inv
  obtain ⟨xa, S3, e3, ga, p3, k3⟩ := Sx (n + 1 + 2000) S2 j i (psD ms) p2 (by omega) iM.1 iM.2
  obtain ⟨xb, S4, e4, gb, p4, k4⟩ := Sx (n + 1 + 2000 + 1) S3 j i (psD bs) p3 (by omega) iB.1 iB.2
  generalize hFe : D.tup (psD ms) = M at *
  generalize hBe : D.tup (psD bs) = B at *
  generalize hYe : D.tup (ys.map yrD) = Y at *
  generalize hQe : D.int gap = Q at *
  clear hFe hBe hYe hQe iM iB
  obtain ⟨Fo, hFo⟩ : ∃ Fo, Fo = D.tup [M, B, Y, Q] := ⟨_, rfl⟩
  have i0 : ∀ (ρ : Ev) (S : Sto), ρ[3]? = some (some Fo) → lBin gIx (lVar 3) (lC (.int 0)) ρ S = .ok M S := fun ρ S h => bin_ok (by unfold lVar; rw [h]) rfl (by rw [hFo]; rfl)
  have i1 : ∀ (ρ : Ev) (S : Sto), ρ[3]? = some (some Fo) → lBin gIx (lVar 3) (lC (.int 1)) ρ S = .ok B S := fun ρ S h => bin_ok (by unfold lVar; rw [h]) rfl (by rw [hFo]; rfl)
  have i2 : ∀ (ρ : Ev) (S : Sto), ρ[3]? = some (some Fo) → lBin gIx (lVar 3) (lC (.int 2)) ρ S = .ok Y S := fun ρ S h => bin_ok (by unfold lVar; rw [h]) rfl (by rw [hFo]; rfl)
  have i3 : ∀ (ρ : Ev) (S : Sto), ρ[3]? = some (some Fo) → lBin gIx (lVar 3) (lC (.int 3)) ρ S = .ok Q S := fun ρ S h => bin_ok (by unfold lVar; rw [h]) rfl (by rw [hFo]; rfl)
  have hset3 : lSet 3 (lSlice gSlice (lCall 2 gpa [] (aCons (lVar 1) (aCons (lIf (tTru (lBin gEq (lBin gAdd2 (lCall 2 gdr [] (aCons (lVar 1) (aCons (lC (.int 4)) aNil))) (lVar 2)) (lC (.int 0)))) (lC (.int 24)) (lC (.int 6))) aNil))) oNone (oSome (lC (.int 4)))) [some sc, some (.ref j), some (.int (t : Int)), none, none, none, none, none, none, none, none] S = .ok (.nx [some sc, some (.ref j), some (.int (t : Int)), some Fo, none, none, none, none, none, none, none]) S2 := by
    rw [hFo]
    exact set_ok (slice_ok (call_ok (acons_ok rfl (acons_ok hmost rfl)) rfl e2) rfl (osome_ok rfl) rfl)
  -- the first nine
  obtain ⟨L0, hL0⟩ : ∃ L0, L0 = [Fo, .tup [M, .non, .non, Q], .tup [M, B, .non, .int 0], .tup [.tup [], .tup [], .tup [], .int 0]] := ⟨_, rfl⟩
  have g00 : Gd 60 (.int 0) := .int 0 (by decide +kernel)
  have gE : Gd 60 (.tup []) := .tup _ (by simp) (by simp)
  have q0 : ∀ z ∈ L0, Four z := fun z hz => by
    rw [hL0, hFo] at hz
    simp only [List.mem_cons, List.not_mem_nil, or_false] at hz
    rcases hz with rfl | rfl | rfl | rfl
    · exact four_of hM hB hY hQ
    · exact four_of hM .non .non hQ
    · exact four_of hM hB .non g00
    · exact four_of gE gE gE g00
  have hset4 : lSet 4 (lLst (aCons (lVar 3) (aCons (lTup (aCons (lBin gIx (lVar 3) (lC (.int 0))) (aCons (lC .non) (aCons (lC .non) (aCons (lBin gIx (lVar 3) (lC (.int 3))) aNil))))) (aCons (lTup (aCons (lBin gIx (lVar 3) (lC (.int 0))) (aCons (lBin gIx (lVar 3) (lC (.int 1))) (aCons (lC .non) (aCons (lC (.int 0)) aNil))))) (aCons (lTup (aCons (lTup aNil) (aCons (lTup aNil) (aCons (lTup aNil) (aCons (lC (.int 0)) aNil))))) aNil))))) [some sc, some (.ref j), some (.int (t : Int)), some Fo, none, none, none, none, none, none, none] S2 = .ok (.nx [some sc, some (.ref j), some (.int (t : Int)), some Fo, some (.lst L0), none, none, none, none, none, none]) S2 := by
    rw [hL0]
    have hE : ∀ ρ : Ev, lTup aNil ρ S2 = .ok (.tup []) S2 := fun ρ => tup_ok rfl (by simp)
    exact set_ok (lst_ok (acons_ok rfl (acons_ok (tup_ok (acons_ok (i0 _ _ rfl) (acons_ok rfl (acons_ok rfl (acons_ok (i3 _ _ rfl) rfl)))) (by simp)) (acons_ok (tup_ok (acons_ok (i0 _ _ rfl) (acons_ok (i1 _ _ rfl) (acons_ok rfl (acons_ok rfl rfl)))) (by simp)) (acons_ok (tup_ok (acons_ok (hE _) (acons_ok (hE _) (acons_ok (hE _) (acons_ok rfl rfl)))) (by simp)) rfl)))) (by simp))
  have l0 : L0.length = 4 := by rw [hL0]; rfl
  obtain ⟨fars, hfars⟩ : ∃ fars : List Int, fars = [(10 : Int) ^ 30 - 1, 10 ^ 30, -1] := ⟨_, rfl⟩
  have gfar : ∀ f ∈ fars, Gd 60 (.int f) := fun f hf => by
    rw [hfars] at hf
    simp only [List.mem_cons, List.not_mem_nil, or_false] at hf
    rcases hf with rfl | rfl | rfl
    · exact .int _ (by decide +kernel)
    · exact .int _ (by decide +kernel)
    · exact .int _ (by decide +kernel)
  obtain ⟨L1, hL1⟩ : ∃ L1, L1 = fars.map fun f => D.tup [M, B, Y, .int f] := ⟨_, rfl⟩
  have l1 : L1.length = 3 := by rw [hL1, hfars]; rfl
  have q1 : ∀ z ∈ L1, Four z := fun z hz => by
    rw [hL1] at hz
    obtain ⟨f, hf, rfl⟩ := List.mem_map.mp hz
    exact four_of hM hB hY (gfar f hf)
  have hcomp : lComp (lIter (lTup (aCons (lBin gSub (lBin gPow (lC (.int 10)) (lC (.int 30))) (lC (.int 1))) (aCons (lBin gPow (lC (.int 10)) (lC (.int 30))) (aCons (lUn gNeg (lC (.int 1))) aNil))))) [5] (gtName 5) tYesL (lBin gAdd2 (lSlice gSlice (lVar 3) oNone (oSome (lC (.int 3)))) (lTup (aCons (lVar 5) aNil))) [some sc, some (.ref j), some (.int (t : Int)), some Fo, some (.lst L0), none, none, none, none, none, none] S2 = .ok (.lst L1) S2 := by
    have hpow : ∀ ρ : Ev, lBin gPow (lC (.int 10)) (lC (.int 30)) ρ S2 = .ok (.int (10 ^ 30)) S2 := fun ρ => bin_ok rfl rfl (pow_ii ⟨by decide, by decide, by decide⟩)
    have hit : ∀ ρ : Ev, lIter (lTup (aCons (lBin gSub (lBin gPow (lC (.int 10)) (lC (.int 30))) (lC (.int 1))) (aCons (lBin gPow (lC (.int 10)) (lC (.int 30))) (aCons (lUn gNeg (lC (.int 1))) aNil)))) ρ S2 = .ok ⟨fars.map D.int, fun _ => True⟩ S2 := fun ρ => by
      rw [hfars]
      exact iter_ok (tup_ok (acons_ok (bin_ok (hpow _) rfl rfl) (acons_ok (hpow _) (acons_ok (un_ok rfl rfl) rfl))) (by simp)) rfl
    rw [hL1]
    refine comp_okL (hit _) (by rw [hfars]; decide) (comp_map (f := fun f : Int => D.tup [M, B, Y, .int f]) trivial fars fun f hf => ⟨_, rfl, ?_⟩)
    have hs3 : ∀ ρ : Ev, ρ[3]? = some (some Fo) → lSlice gSlice (lVar 3) oNone (oSome (lC (.int 3))) ρ S2 = .ok (.tup [M, B, Y]) S2 := fun ρ h => by
      rw [hFo] at h
      exact slice_ok (by unfold lVar; rw [h]) rfl (osome_ok rfl) rfl
    exact bin_ok (hs3 _ rfl) (tup_ok (acons_ok rfl rfl) (by simp)) (tcatD (by simp))
  have c1 : gAdd2 S2 (.lst L0) (.lst L1) = some (.lst (L0 ++ L1)) := catL rfl rfl rfl (by rw [List.length_append]; omega)
  obtain ⟨L2, hL2⟩ : ∃ L2, L2 = L0 ++ L1 := ⟨_, rfl⟩
  have l2 : L2.length = 7 := by rw [hL2, List.length_append]; omega
  have q2 : ∀ z ∈ L2, Four z := fun z hz => by
    rw [hL2] at hz
    exact (List.mem_append.mp hz).elim (q0 z) (q1 z)
  rw [← hL2] at c1
  obtain ⟨L3, hL3⟩ : ∃ L3, L3 = L2 ++ [D.tup [.tup xa, B, Y, Q]] := ⟨_, rfl⟩
  have l3 : L3.length = 8 := by rw [hL3, List.length_append, l2]; rfl
  have c2 : gAdd2 S3 (.lst L2) (.lst [D.tup [.tup xa, B, Y, Q]]) = some (.lst L3) := catL rfl rfl hL3.symm (by omega)
  have q3 : ∀ z ∈ L3, Four z := fun z hz => by
    rw [hL3] at hz
    exact (List.mem_append.mp hz).elim (q2 z) fun h => by rw [List.mem_singleton.mp h]; exact four_of ga hB hY hQ
  obtain ⟨L4, hL4⟩ : ∃ L4, L4 = L3 ++ [D.tup [M, .tup xb, Y, Q]] := ⟨_, rfl⟩
  have l4 : L4.length = 9 := by rw [hL4, List.length_append, l3]; rfl
  have c3 : gAdd2 S4 (.lst L3) (.lst [D.tup [M, .tup xb, Y, Q]]) = some (.lst L4) := catL rfl rfl hL4.symm (by omega)
  have q4 : ∀ z ∈ L4, Four z := fun z hz => by
    rw [hL4] at hz
    exact (List.mem_append.mp hz).elim (q3 z) fun h => by rw [List.mem_singleton.mp h]; exact four_of hM gb hY hQ
  -- twelve otherwise
  rw [← hFo] at hH
  obtain ⟨L5, S5, e5, l5, q5, p5, k5⟩ := otherwise_ok So hH (a0 := some sc) (a2 := some (.int (t : Int))) (a5 := none) (L0 := L4) ((List.range 12).map fun (i : Nat) => (i : Int)) (n + 1 + 2000 + 1 + 1) S4 L4 p4 (by rw [List.length_map, List.length_range]; omega) (by rw [List.length_map, List.length_range]; omega) q4
  rw [List.length_map, List.length_range] at l5 p5
  have hrng : ((List.range 12).map fun (i : Nat) => (i : Int)).map D.int = (List.range (12 : Int).toNat).map fun (i : Nat) => D.int (i : Int) := by rw [List.map_map]; rfl
  rw [hrng] at e5
  -- asked of each
  have hall : tTru (lCallB gAll (aCons (lComp (lIter (lVar 4)) [8] (gtName 8) tYesL (lCall 1 gr [] (aCons (lVar 8) aNil))) aNil)) [some sc, some (.ref j), some (.int (t : Int)), some Fo, some (.lst L5), none, none, none, none, none, none] S5 = .ok true S5 := by
    have h := comp_map (enc := fun d : D => d) (f := fun _ : D => D.bl true) (g := gtName 8) (te := lCall 1 gr [] (aCons (lVar 8) aNil)) (ρ0 := wipeE [some sc, some (.ref j), some (.int (t : Int)), some Fo, some (.lst L5), none, none, none, none, none, none] [8]) (S := S5) (chk := fun _ => True) trivial L5 fun d hd => ⟨_, rfl, by
      obtain ⟨m, b, p, q, e, gd⟩ := q5 d hd
      refine call_ok (acons_ok rfl rfl) rfl ?_
      show gr [d] S5 = _
      rw [e] at gd ⊢
      exact Sr S5 m b p q gd⟩
    rw [List.map_id'] at h
    have ha := all_ok (S := S5) (fun _ : D => true) L5
    have ht : L5.all (fun _ : D => true) = true := List.all_eq_true.mpr fun _ _ => rfl
    rw [ht] at ha
    exact tru_b (callb_ok (acons_ok (comp_okL (iter_ok rfl rfl) (show L5.length ≤ 100000 by omega) h) rfl) ha) rfl
  have hcir : tTru (lBin gNotB (lCall 4 gc [] (aCons (lBin gIx (lVar 3) (lC (.int 0))) (aCons (lBin gIx (lVar 3) (lC (.int 1))) (aCons (lBin gIx (lVar 3) (lC (.int 2))) (aCons (lBin gIx (lVar 3) (lC (.int 3))) aNil))))) (lC (.bl true))) [some sc, some (.ref j), some (.int (t : Int)), some Fo, some (.lst L5), none, none, none, none, none, none] S5 = .ok false S5 := by
    have ec := Sc S5 M B Y Q hM.in2 hB.in2 hY.in3 hQ.plain hQ.intOk
    rw [hC] at ec
    exact tru_b (bin_ok (call_ok (acons_ok (i0 _ _ rfl) (acons_ok (i1 _ _ rfl) (acons_ok (i2 _ _ rfl) (acons_ok (i3 _ _ rfl) rfl)))) rfl ec) rfl rfl) rfl
  -- the texts
  obtain ⟨tx, S6, e6, tl6, tg, p6, k6⟩ := St (n + 1 + 2000 + 1 + 1 + 9 * 12) S5 j i p5 (by omega)
  obtain ⟨R, hR⟩ : ∃ R : List D, R = [.str "", .non, .int 0, .bl true, .tup [.str "a"], .lst [.str "a"], .dct false [(.str "a", .int 1)], .tup [], Fo] := ⟨_, rfl⟩
  have lR : R.length = 9 := by rw [hR]; rfl
  have gFo : Gd 60 Fo := by rw [hFo]; exact hG
  have gR : ∀ z ∈ R, Gd 60 z := fun z hz => by
    rw [hR] at hz
    simp only [List.mem_cons, List.not_mem_nil, or_false] at hz
    rcases hz with rfl | rfl | rfl | rfl | rfl | rfl | rfl | rfl | rfl
    · exact gstr (by decide)
    · exact .non
    · exact g00
    · exact .bl _
    · exact .tup _ (by simp) fun x hx => by rw [List.mem_singleton.mp hx]; exact gstr (by decide)
    · exact .lst _
    · exact .dct _ _
    · exact gE
    · exact gFo
  have hlr : ∀ ρ : Ev, ρ[3]? = some (some Fo) → lLst (aCons (lC (.str "")) (aCons (lC .non) (aCons (lC (.int 0)) (aCons (lC (.bl true)) (aCons (lTup (aCons (lC (.str "a")) aNil)) (aCons (lLst (aCons (lC (.str "a")) aNil)) (aCons (fun _ S => .ok (.dct false [(.str "a", .int 1)]) S) (aCons (lTup aNil) (aCons (lVar 3) aNil))))))))) ρ S6 = .ok (.lst R) S6 := fun ρ h => by
    have hv : lVar 3 ρ S6 = .ok Fo S6 := by unfold lVar; rw [h]
    have hE : lTup aNil ρ S6 = .ok (.tup []) S6 := tup_ok rfl (by simp)
    have hA : lTup (aCons (lC (.str "a")) aNil) ρ S6 = .ok (.tup [.str "a"]) S6 := tup_ok (acons_ok rfl rfl) (by simp)
    have hB : lLst (aCons (lC (.str "a")) aNil) ρ S6 = .ok (.lst [.str "a"]) S6 := lst_ok (acons_ok rfl rfl) (by simp)
    rw [hR]
    exact lst_ok (acons_ok rfl (acons_ok rfl (acons_ok rfl (acons_ok rfl (acons_ok hA (acons_ok hB (acons_ok rfl (acons_ok hE (acons_ok hv rfl))))))))) (by simp)
  obtain ⟨Z, hZ⟩ : ∃ Z, Z = tx ++ R := ⟨_, rfl⟩
  have lZ : Z.length = 17 := by rw [hZ, List.length_append]; omega
  have gZ : ∀ z ∈ Z, Gd 60 z := fun z hz => by
    rw [hZ] at hz
    exact (List.mem_append.mp hz).elim (tg z) (gR z)
  have c6 : gAdd2 S6 (.lst tx) (.lst R) = some (.lst Z) := catL rfl rfl hZ.symm (by omega)
  obtain ⟨S7, e7, hI⟩ := for_invB (chk := fun _ => True) (g := gtName 9) (N := Z.length) (ρ0 := [some sc, some (.ref j), some (.int (t : Int)), some Fo, some (.lst L5), none, none, none, none, none, none])
    (lb := lSeq (lSet 10 (lCall 1 gn [] (aCons (lVar 9) aNil))) (lIfS (MP.tOr (MP.tNot (tTru (lIsi tabBlA (lVar 10)))) (tTru (lBin gNe (lVar 10) (lCall 1 gl [] (aCons (lVar 9) aNil))))) (lRet (lC (.bl false))) lNext))
    (I := fun _ S' => S' = S6) (fun _ => trivial) Z 0 S6 (by simp) rfl (by
    intro z hz m S' hm hI
    subst hI
    have z1 := Sn S' z (gZ z hz).plain
    have z2 := Sl S' z (gZ z hz).plain
    exact ⟨_, _, S', rfl, seq_nx (set_ok (call_ok (acons_ok rfl rfl) rfl z1)) (if_ff (or_ff (not_ok (b := true) (tru_b (isi_ok rfl rfl) rfl)) (tru_b (bin_ok rfl (call_ok (acons_ok rfl rfl) rfl z2) (neB _)) rfl)) rfl), rfl, rfl⟩)
  subst hI
  refine ⟨_, _, S7, rfl, seq_nx hset3 (seq_nx hset4 (seq_nx (set_ok (bin_ok rfl hcomp c1)) (seq_nx (set_ok (bin_ok rfl (lst_ok (acons_ok (tup_ok (acons_ok (call_ok (acons_ok rfl (acons_ok (i0 _ _ rfl) rfl)) rfl e3) (acons_ok (i1 _ _ rfl) (acons_ok (i2 _ _ rfl) (acons_ok (i3 _ _ rfl) rfl)))) (by simp)) rfl) (by simp)) c2))
    (seq_nx (set_ok (bin_ok rfl (lst_ok (acons_ok (tup_ok (acons_ok (i0 _ _ rfl) (acons_ok (call_ok (acons_ok rfl (acons_ok (i1 _ _ rfl) rfl)) rfl e4) (acons_ok (i2 _ _ rfl) (acons_ok (i3 _ _ rfl) rfl)))) (by simp)) rfl) (by simp)) c3))
      (seq_nx (for_ok (range_ok (acons_ok rfl rfl) (by decide) (by decide)) e5) (seq_nx (if_ff (or_ff (not_ok hall) hcir) rfl)
        (for_ok (iter_ok (bin_ok (call_ok (acons_ok rfl rfl) rfl e6) (hlr _ rfl) c6) rfl) e7))))))), rfl, p6.mono (by omega)⟩
end
end K01

namespace K01
open PySem PySem.Spec PyProof.Rows L2 MP
def spLaw (K : PySem.W.Frag) : Sp := fun vs H Q _ => ∃ (a : Addr) (ns : List Int), vs = [.ref a] ∧ SqL K H a (ns.map V.int) ∧ ns.length ≤ 63 ∧ ∀ H', Q (.bl true) H'
theorem sr_nil {K : PySem.W.Frag} {H : Hp} : SR K [] H [] := ⟨List.nodup_nil, rfl, fun i a o h => by simp at h⟩
theorem vr_script {K : PySem.W.Frag} {H : Hp} {a : Addr} {ns : List Int} (h : SqL K H a (ns.map V.int)) : VR K [] H (.ref a) (.lst (ns.map D.int)) := by
  rcases h with h | ⟨o, its, n, hk, h1, h2, h3, h4, h5⟩
  · exact .lst (by simp) h VRs.of_ints
  · exact .lstK hk h1 h2 h3 h4 h5 VRs.of_ints
section
variable {P : Program} {w : World} {K : PySem.W.Frag} {mg : Str → Option Value} {base : Heap}
theorem law_fn (T : T01 K mg) : MP.FnOk P w K mg base (L2.CX P w) 11 T.f_law T.fd_law ["_law_script"] (spLaw K) := by
  obtain ⟨g, Fn, Sl⟩ := ok_law (P := P) (w := w) (base := base) T
  refine MP.FnOk.imp Fn fun vs H Q E ⟨a, ns, e, hS, hl, k⟩ => ?_
  subst e
  obtain ⟨S', q⟩ := Sl ns hl
  have key : spL K g 1 [.ref a] H Q E := by
    refine ⟨rfl, [], [], [.lst (ns.map D.int)], sr_nil, .cons (vr_script hS) .nil, ?_, ?_, ?_⟩
    · rw [q]; intro z; cases z
    · intro d S2 q2 v H' z
      rw [q] at q2
      cases q2
      obtain ⟨m', e, x, w⟩ := z
      cases w
      exact k H'
    · intro C fs S2 q2
      rw [q] at q2
      cases q2
  exact key
theorem all_ {l : PySem.W.OpenLaw} {w : World} {K : PySem.W.Frag} {mg : Str → Option Value} {fa : Addr} (hfa : mg "law" = some (.ref fa)) (T : T01 K mg) :
    ∃ fd : FuncData, (∀ (s : Shared) (u : Value), BindsTo s fd ⟨[u], []⟩ [("_law_script", u)]) ∧ ∀ base : Heap, K.In base → base.Ns mainGlobals mg → MP.FnOk l.prog w K mg base (L2.CX l.prog w) 11 fa fd ["_law_script"] (spLaw K) := by
  have e := hfa.symm.trans T.mg_law
  cases e
  refine ⟨T.fd_law, fun s u => ?_, fun base _ _ => law_fn T⟩
  obtain ⟨oc, od, kV, doc, pm, an, cdv, ct, osl, e, lk, hcd⟩ := T.F_law.ex
  rw [e]
  exact .of_eq rfl
end
theorem walk {l : PySem.W.OpenLaw} {q : Program} {loose : List Str} {XP : (Str → Option Value) → Heap → Prop} {YP : World → Heap → Prop} {d : DefRec} {K : Params → PySem.W.Frag} (hn : l.most = some 63) (hdf : d.params.defaults = [])
    (hY : ∀ (w : World) (h : Heap), YP w h → (K w.params).In h)
    (F : ∀ (w : World) (mg : Str → Option Value) (fa : Addr) (h : Heap), (K w.params).In h → h.Ns mainGlobals mg → mg d.name = some (.ref fa) →
      ∃ fd : FuncData, (∀ (s : Shared) (u : Value), BindsTo s fd ⟨[u], []⟩ [("_law_script", u)]) ∧ ∀ base : Heap, (K w.params).In base → base.Ns mainGlobals mg → MP.FnOk l.prog w (K w.params) mg base (L2.CX l.prog w) 11 fa fd ["_law_script"] (spLaw (K w.params))) :
    PySem.W.WalkO q loose XP YP l.row.toRowW d [] (fun f vs => PySem.call f vs) :=
  MP.walk_ofG (n := 63) (k := 11) (x := "_law_script") (CX := fun w => L2.CX l.prog w) (sp := fun w => spLaw (K w.params)) hn (by decide) hdf (room_caller ⟨rfl, by decide, by decide⟩) hY F (fun _ _ a ns hl _ _ hS => ⟨a, ns, rfl, hS, hl, fun _ => rfl⟩) fun _ _ _ _ _ z => by
    obtain ⟨_, _, _, _, _, _, _, _, _, _, _, _, hE⟩ := z
    exact hE
end K01
open PySem PySem.W PyProof.Rows
set_option maxRecDepth 100000 in
set_option maxHeartbeats 0 in
theorem PySem.Challenge.cw_lotgivers_k01_names_and_circles_made_holds : PySem.Challenge.rw_lotgivers_k01_names_and_circles_made.Holds := by
  w_on; o_law; k_head; (case hw => w_witness2)
  k_fill
  refine K01.walk (l := PySem.Challenge.rw_lotgivers_k01_names_and_circles_made) rfl rfl (fun w h Y => PySem.W.kIn_of Y) ?F
  case F =>
    intro w mg fa h KX G hmg
    refine' K01.all_ hmg (K01.T01_mk KX G ?a_is_name ?l_is_name ?c_is_name ?k_is_name ?a_is_pair ?l_is_pair ?c_is_pair ?k_is_pair ?a_does_rise ?l_does_rise ?c_does_rise ?k_does_rise ?a_are_pairs ?l_are_pairs ?c_are_pairs ?k_are_pairs ?a_is_member ?l_is_member ?c_is_member ?k_is_member ?a_are_members ?l_are_members ?c_are_members ?k_are_members ?a_are_years ?l_are_years ?c_are_years ?k_are_years ?a_is_circle ?l_is_circle ?c_is_circle ?k_is_circle ?a__law_blend ?l__law_blend ?c__law_blend ?k__law_blend ?a__law_pot ?l__law_pot ?c__law_pot ?k__law_pot ?a__law_draw ?l__law_draw ?c__law_draw ?k__law_draw ?a__law_pick ?l__law_pick ?c__law_pick ?k__law_pick ?a__law_words ?l__law_words ?c__law_words ?k__law_words ?a__law_pairs ?l__law_pairs ?c__law_pairs ?k__law_pairs ?a__law_turned_round ?l__law_turned_round ?c__law_turned_round ?k__law_turned_round ?a__law_parts ?l__law_parts ?c__law_parts ?k__law_parts ?a__law_is_name ?l__law_is_name ?c__law_is_name ?k__law_is_name ?a__law_are_pairs ?l__law_are_pairs ?c__law_are_pairs ?k__law_are_pairs ?a__law_are_members ?l__law_are_members ?c__law_are_members ?k__law_are_members ?a__law_is_circle ?l__law_is_circle ?c__law_is_circle ?k__law_is_circle ?a__law_odd ?l__law_odd ?c__law_odd ?k__law_odd ?a__law_otherwise ?l__law_otherwise ?c__law_otherwise ?k__law_otherwise ?a__law_exchanged ?l__law_exchanged ?c__law_exchanged ?k__law_exchanged ?a__law_right ?l__law_right ?c__law_right ?k__law_right ?a__law_texts ?l__law_texts ?c__law_texts ?k__law_texts ?a_law ?l_law ?c_law ?k_law ?g_LETTERS ?g_MOST_LETTERS ?g_MOST_FIGURES ?n_len ?n_abs ?n_all ?n_range ?n_isinstance ?n_list ?n_tuple ?n_str ?n_sorted ?n_zip ?n_set ?n_max ?n_min ?n_int ?n_bool)
    (case a_is_name => k_is)
    (case l_is_name => k_is)
    (case c_is_name => k_is)
    (case k_is_name => k_is)
    (case a_is_pair => k_is)
    (case l_is_pair => k_is)
    (case c_is_pair => k_is)
    (case k_is_pair => k_is)
    (case a_does_rise => k_is)
    (case l_does_rise => k_is)
    (case c_does_rise => k_is)
    (case k_does_rise => k_is)
    (case a_are_pairs => k_is)
    (case l_are_pairs => k_is)
    (case c_are_pairs => k_is)
    (case k_are_pairs => k_is)
    (case a_is_member => k_is)
    (case l_is_member => k_is)
    (case c_is_member => k_is)
    (case k_is_member => k_is)
    (case a_are_members => k_is)
    (case l_are_members => k_is)
    (case c_are_members => k_is)
    (case k_are_members => k_is)
    (case a_are_years => k_is)
    (case l_are_years => k_is)
    (case c_are_years => k_is)
    (case k_are_years => k_is)
    (case a_is_circle => k_is)
    (case l_is_circle => k_is)
    (case c_is_circle => k_is)
    (case k_is_circle => k_is)
    (case a__law_blend => k_is)
    (case l__law_blend => k_is)
    (case c__law_blend => k_is)
    (case k__law_blend => k_is)
    (case a__law_pot => k_is)
    (case l__law_pot => k_is)
    (case c__law_pot => k_is)
    (case k__law_pot => k_is)
    (case a__law_draw => k_is)
    (case l__law_draw => k_is)
    (case c__law_draw => k_is)
    (case k__law_draw => k_is)
    (case a__law_pick => k_is)
    (case l__law_pick => k_is)
    (case c__law_pick => k_is)
    (case k__law_pick => k_is)
    (case a__law_words => k_is)
    (case l__law_words => k_is)
    (case c__law_words => k_is)
    (case k__law_words => k_is)
    (case a__law_pairs => k_is)
    (case l__law_pairs => k_is)
    (case c__law_pairs => k_is)
    (case k__law_pairs => k_is)
    (case a__law_turned_round => k_is)
    (case l__law_turned_round => k_is)
    (case c__law_turned_round => k_is)
    (case k__law_turned_round => k_is)
    (case a__law_parts => k_is)
    (case l__law_parts => k_is)
    (case c__law_parts => k_is)
    (case k__law_parts => k_is)
    (case a__law_is_name => k_is)
    (case l__law_is_name => k_is)
    (case c__law_is_name => k_is)
    (case k__law_is_name => k_is)
    (case a__law_are_pairs => k_is)
    (case l__law_are_pairs => k_is)
    (case c__law_are_pairs => k_is)
    (case k__law_are_pairs => k_is)
    (case a__law_are_members => k_is)
    (case l__law_are_members => k_is)
    (case c__law_are_members => k_is)
    (case k__law_are_members => k_is)
    (case a__law_is_circle => k_is)
    (case l__law_is_circle => k_is)
    (case c__law_is_circle => k_is)
    (case k__law_is_circle => k_is)
    (case a__law_odd => k_is)
    (case l__law_odd => k_is)
    (case c__law_odd => k_is)
    (case k__law_odd => k_is)
    (case a__law_otherwise => k_is)
    (case l__law_otherwise => k_is)
    (case c__law_otherwise => k_is)
    (case k__law_otherwise => k_is)
    (case a__law_exchanged => k_is)
    (case l__law_exchanged => k_is)
    (case c__law_exchanged => k_is)
    (case k__law_exchanged => k_is)
    (case a__law_right => k_is)
    (case l__law_right => k_is)
    (case c__law_right => k_is)
    (case k__law_right => k_is)
    (case a__law_texts => k_is)
    (case l__law_texts => k_is)
    (case c__law_texts => k_is)
    (case k__law_texts => k_is)
    (case a_law => k_is)
    (case l_law => k_is)
    (case c_law => k_is)
    (case k_law => k_is)
    (case g_LETTERS => k_is)
    (case g_MOST_LETTERS => k_is)
    (case g_MOST_FIGURES => k_is)
    (case n_len => k_is)
    (case n_abs => k_is)
    (case n_all => k_is)
    (case n_range => k_is)
    (case n_isinstance => k_is)
    (case n_list => k_is)
    (case n_tuple => k_is)
    (case n_str => k_is)
    (case n_sorted => k_is)
    (case n_zip => k_is)
    (case n_set => k_is)
    (case n_max => k_is)
    (case n_min => k_is)
    (case n_int => k_is)
    (case n_bool => k_is)
