import PyProof.Rows.All
import PySem.Challenge.RW_tablework_k94_whole_counts_of_sign_matri
import Wide.All
import OpenK.AllK
import Wide.FinOn
import HandS.ForMost
import HandS.ForExc
import HandS.CallSlots
import HandS.TupAny
import HandS.Conv
import HandS.IsInst
import HandS.ExcInit
import HandS.ExcField
import HandS.Style
import HandS.TupLe
import HandS.Zip
import HandS.Sort
import HandS.SortRule
import HandS.SortInts
import HandS.Deep
import HandS.NoneIn
import HandS.RevRange
import HandS.Rev
import HandS.SetFor
import HandS.HeadHook2
import KE.SortData
import KE.KStateDown
import HandS.Head0
import HandS.Head1
import HandS.Head2
import HandS.HeadEnd
import HandS.SortKw
import PyProof.EqAt
import KE.KTupSum
import PyProof.ConsumeS
import HandS.TupSets
import HandS.Wide
import HandS.CallLocal
import HandS.Iter
import HandS.Dict
import HandS.DictTup
import KE.KDictDisplayH
import KE.KDictCopyH
import HandS.TupMul
import HandS.WideMore
set_option Elab.async false
set_option linter.all false
set_option maxRecDepth 100000
set_option maxHeartbeats 3900000
namespace DL
open PySem PySem.Spec PyProof.Rows L2
/-! ### tuples that are solid: the object known to have no dict -/
def Sol (o : Obj) : Prop := o.cls = .type "tuple" ∧ o.dict = none
abbrev tupO (us : List Value) : Obj := { cls := .type "tuple", data := .seq us.toArray }
theorem sol_new (us : List Value) : Sol (tupO us) := ⟨rfl, rfl⟩
section
variable {X : Cx} {pins : List (Addr × Obj)} {σ : L2.St} {H : Hp} {s : Shared}
/-- a new tuple at the heap's end, laid for good -/
theorem sol_laid {xs : List V} {us : List Value} {t : Nat} (I : Inv X pins σ H s) (r : Vals xs us) (hz : xs.length ≤ sizeLine) :
    Inv X pins σ (upd H s.heap.objs.size (.frz (tupO us) (.tup xs))) { s with heap := s.heap.push (tupO us), toks := t } ∧ H s.heap.objs.size = none :=
  ⟨I.laid (fun _ _ e => Heap.get?_push_of_some _ e) (Nat.le_refl _) ⟨Heap.get?_push_size _ rfl, hz, us, r, ⟨_, Heap.get?_push_size _ rfl, rfl, _, rfl⟩⟩, I.hok.fresh (Nat.le_refl _)⟩
end
section
variable {X : Cx} {es : List Expr} {t : TA} {pos : Pos}
def tTupS (t : TA) : TE := fun σ H Q => t σ H fun xs K => xs.length ≤ sizeLine ∧ ∀ p o, K p = none → Sol o → Q (.ref p) (upd K p (.frz o (.tup xs)))
theorem pe_tupS {x1} (h : PA X es t) : PE X (.Tuple es x1 pos) (tTupS t) := ⟨fun pins s σ H Q I hq => wpAny_Tuple_spliced (thn (h.run pos pins s σ H _ I hq) fun us s1 ⟨xs, K, J, r, z, q⟩ => by
  obtain ⟨J2, n⟩ := sol_laid (t := s1.toks) J r z
  exact ⟨by rw [← r.length]; exact z, .ref _, _, J2, rfl, q _ _ n (sol_new us)⟩)⟩
/-- t + u -/
def rCatS (K : PySem.W.Frag) : R2 := fun x y H Q => ∃ a b xs ys, x = .ref a ∧ y = .ref b ∧ SqT K H a xs ∧ SqT K H b ys ∧ xs.length + ys.length ≤ sizeLine ∧
  (xs = [] → Q (.ref b) H) ∧ (xs ≠ [] → ys = [] → Q (.ref a) H) ∧ (xs ≠ [] → ys ≠ [] → ∀ p o, H p = none → Sol o → Q (.ref p) (upd H p (.frz o (.tup (xs ++ ys)))))
theorem op_catS : OpR X (binaryOp .Add) (rCatS X.K) := by
  intro pins s σ H x y v u Q I rx ry h
  obtain ⟨a, b, xs, ys, rfl, rfl, ha, hb, hz, q0, q1, q2⟩ := h
  obtain ⟨i1, r1, p1, _⟩ := I.tuple ha
  obtain ⟨i2, r2, p2, _⟩ := I.tuple hb
  cases rx; cases ry
  by_cases hx : xs = []
  · subst hx; cases r1
    exact cat_tup0 p1 p2 ⟨.ref b, H, I, rfl, q0 rfl⟩
  · refine HT.cat_tup p1 p2 (fun z => hx (r1.nil_iff.mp z)) (fun z => ⟨.ref a, H, I, rfl, q1 hx (r2.nil_iff.mp z)⟩) (fun z => ?_) (by rw [← r1.length, ← r2.length]; exact hz)
    obtain ⟨J, n⟩ := sol_laid (t := s.toks) I (r1.append r2) (by rw [List.length_append]; exact hz)
    exact ⟨.ref _, _, J, rfl, q2 hx (fun w => z (r2.nil_iff.mpr w)) _ _ n (sol_new _)⟩
/-- t[lo:hi] -/
def rSlS (K : PySem.W.Frag) : V → Option Int → Option Int → Hp → VK → Prop := fun x lo hi H Q => ∃ a xs, x = .ref a ∧ SqT K H a xs ∧
  (HT.sIx xs.length 0 lo = 0 ∧ HT.sIx xs.length xs.length hi = xs.length → Q (.ref a) H) ∧ (¬ (HT.sIx xs.length 0 lo = 0 ∧ HT.sIx xs.length xs.length hi = xs.length) → ∀ p o, H p = none → Sol o → Q (.ref p) (upd H p (.frz o (.tup (cutV xs lo hi)))))
theorem sl_tupS : SlR X (rSlS X.K) := by
  intro pins s σ H x v vl vu lo hi sl Q I rx hs pl pu h
  obtain ⟨a, xs, rfl, hx, q1, q2⟩ := h
  cases rx
  obtain ⟨us, r, ht, hz⟩ := I.tuple hx
  have el : us.toArray.size = xs.length := List.size_toArray.trans r.length.symm
  refine ⟨"tuple", _, PyProof.Rows.slot_tuple_getitem.lookup, ht.typeIs, ?_⟩
  by_cases hw : HT.sIx xs.length 0 lo = 0 ∧ HT.sIx xs.length xs.length hi = xs.length
  · exact getItem_tuple_whole ht hs pl pu (by rw [el]; exact hw) ⟨.ref a, H, I, rfl, q1 hw⟩
  · refine HT.getItem_tuple_cut ht hs pl pu (by rw [el]; exact hw) ?_ (by rw [el]; exact hz)
    rw [el]
    obtain ⟨J, n⟩ := sol_laid (t := s.toks) I ((r.drop (HT.sIx xs.length 0 lo)).take (HT.sIx xs.length xs.length hi - HT.sIx xs.length 0 lo)) (Nat.le_trans (cutV_length xs lo hi) hz)
    exact ⟨.ref _, _, J, rfl, q2 hw _ _ n (sol_new _)⟩
/-- tuple(x) -/
def rTupS (K : PySem.W.Frag) : List V → Hp → VK → Prop := fun xs H Q => ∃ p ys, xs = [.ref p] ∧ ((SqL K H p ys ∧ ∀ l o, H l = none → Sol o → Q (.ref l) (upd H l (.frz o (.tup ys)))) ∨ (SqT K H p ys ∧ Q (.ref p) H))
theorem call_tupleS : CallR X (.type "tuple") (rTupS X.K) := by
  intro pins s σ H xs us Q I r h
  obtain ⟨p, ys, rfl, h⟩ := h
  obtain ⟨u, rfl, rx⟩ := vals1 r
  cases rx
  rcases h with ⟨hq, q⟩ | ⟨hq, q⟩
  · obtain ⟨its, r', pl, hz⟩ := I.list hq
    refine call_tuple_list pl.isList (fun h' kp => ?_) (by have := r'.length; simp only [List.size_toArray]; omega)
    have J : Inv X pins σ H { s with heap := h' } := I.kept (t' := s.toks) kp
    obtain ⟨J2, n⟩ := sol_laid (t := s.toks) J r' hz
    exact ⟨.ref h'.objs.size, _, J2, rfl, q _ _ n (sol_new _)⟩
  · obtain ⟨its, r', pl, _⟩ := I.tuple hq
    exact call_tuple_same pl ⟨.ref p, H, I, rfl, q⟩
/-- tuple(range(..)) -/
def tTupRgS (te : L2.St → Hp → (Int → Int → Hp → Prop) → Prop) : TE := fun σ H Q => te σ H fun a b K => RgOk a b ∧ ∀ q o, K q = none → Sol o → Q (.ref q) (upd K q (.frz o (.tup (rgV a b))))
theorem pe_tupRgS {e : Expr} {te : L2.St → Hp → (Int → Int → Hp → Prop) → Prop} {p : Pos} (hc : X.calm = true) (hg : Gl X "tuple") (hm : X.mg "tuple" = none) (he : PRg X e te) (na : starEach [e] X.env = (false, eval e X.env) :: starEach [] X.env := by rfl) : PE X (.Call (.Name "tuple" p) [e] [] pos) (tTupRgS te) := by
  refine ⟨fun pins s σ H Q I h => Call_ (ld_blt I hg hm boot_tuple (PyProof.Rows.callWith_type1 (args_cons (thn (he pins s σ H _ I h) fun x s1 hx => args_nil ?_) na) na))⟩
  obtain ⟨r, a, b, t, u, v, K, ex, hr, J, ok, q⟩ := hx
  subst ex
  obtain ⟨b1, b2, b3, b4, b5⟩ := ok
  refine call_tuple_range (n := (b - a).toNat) (J.ok.hd hc) hr (small_one b1 b2 b3 b4) (rangeSize_nat a b) b5 fun h' tk acc hk hi => ?_
  have J2 : Inv X pins σ K { s1 with heap := h', toks := tk } := J.kept hk
  obtain ⟨J3, n⟩ := sol_laid (t := tk) J2 (vals_rg hi) (by rw [rgV_length, sizeLine_eq]; omega)
  have e0 : acc.toList.toArray = acc := Array.toArray_toList
  simp only [tupO, e0] at J3
  exact ⟨.ref h'.objs.size, _, J3, rfl, q _ _ n ⟨rfl, rfl⟩⟩
/-- isinstance(x, (c1, ..)), the tuple a solid one -/
def rIsiF (K : PySem.W.Frag) : List V → Hp → VK → Prop := fun xs H Q => ∃ (x : V) (tp : Addr) (o : Obj) (cs : List V) (t : Value) (us : List Value) (b : Bool), xs = [x, .ref tp] ∧ H tp = some (.frz o (.tup cs)) ∧ Paired ClsV cs us ∧ TyX K H x t ∧ PySem.W.kitAny K t us = some b ∧ Q (.bl b) H
theorem call_isiF : CallR X (.builtin "isinstance") (rIsiF X.K) := by
  intro pins s σ H xs us Q I r h
  obtain ⟨x, tp, o, cs, t, ws, b, rfl, hT, k, ty, e, q⟩ := h
  obtain ⟨u1, u2, rfl, r1, r2⟩ := vals2 r
  cases (show u2 = Value.ref tp from r2)
  obtain ⟨P, Z, p, hx⟩ := kit_of I r1 ty
  obtain ⟨_, _, its, rv, o, h1, h2, n, h3⟩ := (show ObjOk X.prog X.w H s.heap tp (.frz o (.tup cs)) from I.hok tp _ hT)
  have e3 := ClsV.all k rv
  subst e3
  obtain ⟨oc, od, dt, sl⟩ := o
  simp only at h2 h3
  subst h2 h3
  exact PySem.W.kia_tup Z I.kIn p h1 e hx fun tk => ⟨.bl b, H, I.tok tk, rfl, q⟩
end
end DL

namespace DL
open PySem PySem.Spec PyProof.Rows L2

/-! ### plain data, what a slot holds, the store of what changes -/
inductive D where
  | non | bl (b : Bool) | int (i : Int) | str (x : Str) | ty (n : String) | glo (x : Str)
  | lst (ds : List D) | tup (ds : List D) | fz (ds : List D) | tp (ds : List D)
  | dK (ks : List Key) (vs : List D) | dT (ks : List (List Int)) (vs : List D)
  | ins (C : Str) (fs : List Str) (vs : List D)

structure Exc where
  cls : Str
  fs : List Str
  vs : List D

inductive Sl where
  | v (d : D) | c (n : Nat) | x (e : Exc)

abbrev Store := List (Option D)
abbrev Env := List (Option Sl)

inductive Out (α : Type) where
  | stuck | ok (a : α) (μ : Store) | exc (e : Exc) (μ : Store)

def Out.bind {α β : Type} : Out α → (α → Store → Out β) → Out β
  | .stuck, _ => .stuck
  | .ok a μ, k => k a μ
  | .exc e μ, _ => .exc e μ

theorem Out.bind_ok {α β : Type} {o : Out α} {k : α → Store → Out β} {b : β} {μ' : Store} (h : o.bind k = .ok b μ') : ∃ a μ, o = .ok a μ ∧ k a μ = .ok b μ' := by
  cases o with
  | stuck => cases h
  | ok a μ => exact ⟨a, μ, rfl, h⟩
  | exc e μ => cases h
/-- the ghost: the addresses that are laid for good, the cells' addresses (none: no more) -/
structure Gh where
  F : Addr → Prop
  am : List (Option Addr)
  ex : Option (Addr × Str × Option Addr)

/-- a tuple that is read: tracked, or of the written part -/
def TupAt (K : PySem.W.Frag) (H : Hp) (a : Addr) (xs : List V) : Prop := (∃ o, H a = some (.frz o (.tup xs)) ∧ Sol o) ∨
  ∃ (o : Obj) (its : Array Value) (n : Nat), K.lookup a = some o ∧ o.cls = .type "tuple" ∧ o.dict = none ∧ o.data = .seq its n ∧ its.size ≤ sizeLine ∧ Vals xs its.toList
theorem TupAt.sq {K : PySem.W.Frag} {H : Hp} {a : Addr} {xs : List V} (h : TupAt K H a xs) : SqT K H a xs := by
  rcases h with ⟨o, h, _⟩ | ⟨o, its, n, k1, k2, k3, k4, k5, k6⟩
  · exact .inl (.inr ⟨o, h⟩)
  · exact .inr ⟨o, its, n, k1, k2, k4, k5, k6⟩
/-- a list that is read and never changes: frozen, or of the written part -/
def FzAt (K : PySem.W.Frag) (H : Hp) (a : Addr) (xs : List V) : Prop :=
  (∃ o, H a = some (.frz o (.lst xs))) ∨ ∃ (o : Obj) (its : Array Value) (n : Nat), K.lookup a = some o ∧ o.cls = .type "list" ∧ o.dict = none ∧ o.data = .seq its n ∧ its.size ≤ sizeLine ∧ Vals xs its.toList
theorem FzAt.sq {K : PySem.W.Frag} {H : Hp} {a : Addr} {xs : List V} (h : FzAt K H a xs) : SqL K H a xs := by
  rcases h with h | h
  · exact .inl (.inr h)
  · exact .inr h
/-! ### a dict whose keys are tuples of ints: its raw object is known, the keys' tuples are solid -/
def dro (a : Addr) (o : Obj) : HO := .ext fun h => h.get? a = some o
def entI (y : List Int × Addr × Value) : DictEntry := ⟨reduceHash (Builtin.Tuple.tupleHashOf (y.1.map hashInt)), .ref y.2.1, y.2.2⟩
abbrev KI (K : PySem.W.Frag) (H : Hp) : List (List Int × V) → List (List Int × Addr × Value) → Prop := Paired fun p q => p.1 = q.1 ∧ TupAt K H q.2.1 (p.1.map V.int) ∧ RelV p.2 q.2.2
def DRaw (K : PySem.W.Frag) (H : Hp) (a : Addr) (o : Obj) (kvs : List (List Int × V)) : Prop :=
  (a == sysModules) = false ∧ kvs.length ≤ sizeLine ∧ o.ExactDict ∧ ∃ (es : Array DictEntry) (ep : Nat) (ys : List (List Int × Addr × Value)), o.data = .dict es ep ∧ es.toList = ys.map entI ∧ KI K H kvs ys ∧ (ys.map (·.1)).Nodup
mutual
inductive Rep (K : PySem.W.Frag) (F : Addr → Prop) (H : Hp) : D → V → Prop
  | non : Rep K F H .non .non
  | bl (b : Bool) : Rep K F H (.bl b) (.bl b)
  | int (i : Int) : Rep K F H (.int i) (.int i)
  | str (x : Str) : Rep K F H (.str x) (.str x)
  | ty (n : String) : Rep K F H (.ty n) (.ty n)
  | glo (x : Str) : Rep K F H (.glo x) (.ref (He.ga K x))
  | lst {ds : List D} {a : Addr} {xs : List V} (f : F a) (h : H a = some (.lst xs)) (r : RepL K F H ds xs) : Rep K F H (.lst ds) (.ref a)
  | fz {ds : List D} {a : Addr} {xs : List V} (h : FzAt K H a xs) (r : RepL K F H ds xs) : Rep K F H (.fz ds) (.ref a)
  | tup {ds : List D} {a : Addr} {xs : List V} (h : TupAt K H a xs) (r : RepL K F H ds xs) : Rep K F H (.tup ds) (.ref a)
  | tp {ds : List D} {a : Addr} {xs : List V} (h : H a = some (.tup xs)) (r : RepL K F H ds xs) : Rep K F H (.tp ds) (.ref a)
  | dK {vs : List D} {a : Addr} {kvs : List (Key × V)} (f : F a) (h : H a = some (.dK kvs)) (r : RepL K F H vs (kvs.map (·.2))) : Rep K F H (.dK (kvs.map (·.1)) vs) (.ref a)
  | dT {vs : List D} {a : Addr} {o : Obj} {kvs : List (List Int × V)} (f : F a) (h : H a = some (dro a o)) (q : DRaw K H a o kvs) (r : RepL K F H vs (kvs.map (·.2))) : Rep K F H (.dT (kvs.map (·.1)) vs) (.ref a)
  | ins {C : Str} {vs : List D} {a dx : Addr} {fs : List (Str × V)} (f : F a) (h : H a = some (.ins (He.ga K C) dx fs)) (r : RepL K F H vs (fs.map (·.2))) : Rep K F H (.ins C (fs.map (·.1)) vs) (.ref a)
inductive RepL (K : PySem.W.Frag) (F : Addr → Prop) (H : Hp) : List D → List V → Prop
  | nil : RepL K F H [] []
  | cons {d : D} {v : V} {ds : List D} {vs : List V} (h : Rep K F H d v) (t : RepL K F H ds vs) : RepL K F H (d :: ds) (v :: vs)
end

section
variable {K : PySem.W.Frag} {F F' : Addr → Prop} {H H' : Hp}
/-- what does not change stays -/
theorem tupAt_mono {a : Addr} {xs : List V} (hk : ∀ a o, H a = some o → (F a ∨ ¬ Mut (some o)) → H' a = some o) (h : TupAt K H a xs) : TupAt K H' a xs := by
  rcases h with ⟨o, h, s⟩ | h
  · exact .inl ⟨o, hk _ _ h (.inr fun z => z), s⟩
  · exact .inr h
theorem fzAt_mono {a : Addr} {xs : List V} (hk : ∀ a o, H a = some o → (F a ∨ ¬ Mut (some o)) → H' a = some o) (h : FzAt K H a xs) : FzAt K H' a xs := by
  rcases h with ⟨o, h⟩ | h
  · exact .inl ⟨o, hk _ _ h (.inr fun z => z)⟩
  · exact .inr h
theorem draw_mono {a : Addr} {o : Obj} {kvs : List (List Int × V)} (hk : ∀ a o, H a = some o → (F a ∨ ¬ Mut (some o)) → H' a = some o) (h : DRaw K H a o kvs) : DRaw K H' a o kvs := by
  obtain ⟨h1, h2, h3, es, ep, ys, h4, h5, h6, h7⟩ := h
  exact ⟨h1, h2, h3, es, ep, ys, h4, h5, Paired.mapP h6 fun p q z => ⟨z.1, tupAt_mono hk z.2.1, z.2.2⟩, h7⟩
mutual
theorem Rep.mono (hk : ∀ a o, H a = some o → (F a ∨ ¬ Mut (some o)) → H' a = some o) (hF : ∀ a, F a → F' a) : ∀ {d : D} {v : V}, Rep K F H d v → Rep K F' H' d v
  | _, _, .non => .non
  | _, _, .bl b => .bl b
  | _, _, .int i => .int i
  | _, _, .str x => .str x
  | _, _, .ty n => .ty n
  | _, _, .glo x => .glo x
  | _, _, .lst f h r => .lst (hF _ f) (hk _ _ h (.inl f)) (RepL.mono hk hF r)
  | _, _, .fz h r => .fz (fzAt_mono hk h) (RepL.mono hk hF r)
  | _, _, .tup h r => .tup (tupAt_mono hk h) (RepL.mono hk hF r)
  | _, _, .tp h r => .tp (hk _ _ h (.inr fun z => z)) (RepL.mono hk hF r)
  | _, _, .dK f h r => .dK (hF _ f) (hk _ _ h (.inl f)) (RepL.mono hk hF r)
  | _, _, .dT f h q r => .dT (hF _ f) (hk _ _ h (.inl f)) (draw_mono hk q) (RepL.mono hk hF r)
  | _, _, .ins f h r => .ins (hF _ f) (hk _ _ h (.inl f)) (RepL.mono hk hF r)
theorem RepL.mono (hk : ∀ a o, H a = some o → (F a ∨ ¬ Mut (some o)) → H' a = some o) (hF : ∀ a, F a → F' a) : ∀ {ds : List D} {vs : List V}, RepL K F H ds vs → RepL K F' H' ds vs
  | _, _, .nil => .nil
  | _, _, .cons h t => .cons (Rep.mono hk hF h) (RepL.mono hk hF t)
end
theorem RepL.length : ∀ {ds : List D} {vs : List V}, RepL K F H ds vs → ds.length = vs.length
  | _, _, .nil => rfl
  | _, _, .cons _ t => congrArg (· + 1) (RepL.length t)
theorem RepL.append : ∀ {ds es : List D} {vs ws : List V}, RepL K F H ds vs → RepL K F H es ws → RepL K F H (ds ++ es) (vs ++ ws)
  | _, _, _, _, .nil, s => s
  | _, _, _, _, .cons h t, s => .cons h (RepL.append t s)
theorem RepL.get : ∀ {ds : List D} {vs : List V} {i : Nat} {d : D}, RepL K F H ds vs → ds[i]? = some d → ∃ v, vs[i]? = some v ∧ Rep K F H d v
  | _, _, _, _, .nil, e => by simp at e
  | _, _, 0, _, .cons h _, e => by simp at e; subst e; exact ⟨_, rfl, h⟩
  | _, _, i + 1, d, .cons _ t, e => by
    obtain ⟨v, h1, h2⟩ := RepL.get (i := i) (d := d) t (by simpa using e)
    exact ⟨v, by simpa using h1, h2⟩
theorem RepL.getV : ∀ {ds : List D} {vs : List V} {i : Nat} {v : V}, RepL K F H ds vs → vs[i]? = some v → ∃ d, ds[i]? = some d ∧ Rep K F H d v
  | _, _, _, _, .nil, e => by simp at e
  | _, _, 0, _, .cons h _, e => by simp at e; subst e; exact ⟨_, rfl, h⟩
  | _, _, i + 1, v, .cons _ t, e => by
    obtain ⟨d, h1, h2⟩ := RepL.getV (i := i) (v := v) t (by simpa using e)
    exact ⟨d, by simpa using h1, h2⟩
theorem RepL.set {d : D} {v : V} (h : Rep K F H d v) : ∀ {ds : List D} {vs : List V} (i : Nat), RepL K F H ds vs → RepL K F H (ds.set i d) (vs.set i v)
  | _, _, _, .nil => .nil
  | _, _, 0, .cons _ t => .cons h t
  | _, _, i + 1, .cons q t => .cons q (RepL.set h i t)
theorem RepL.take : ∀ {ds : List D} {vs : List V} (n : Nat), RepL K F H ds vs → RepL K F H (ds.take n) (vs.take n)
  | _, _, 0, _ => by simpa using RepL.nil
  | _, _, _ + 1, .nil => .nil
  | _, _, n + 1, .cons h t => .cons h (RepL.take n t)
theorem RepL.drop : ∀ {ds : List D} {vs : List V} (n : Nat), RepL K F H ds vs → RepL K F H (ds.drop n) (vs.drop n)
  | _, _, 0, r => r
  | _, _, _ + 1, .nil => .nil
  | _, _, n + 1, .cons _ t => RepL.drop n t
theorem RepL.reverse : ∀ {ds : List D} {vs : List V}, RepL K F H ds vs → RepL K F H ds.reverse vs.reverse
  | _, _, .nil => .nil
  | _, _, .cons h t => by
    rw [List.reverse_cons, List.reverse_cons]
    exact (RepL.reverse t).append (.cons h .nil)
theorem RepL.eraseIdx : ∀ {ds : List D} {vs : List V} (i : Nat), RepL K F H ds vs → RepL K F H (ds.eraseIdx i) (vs.eraseIdx i)
  | _, _, _, .nil => .nil
  | _, _, 0, .cons _ t => t
  | _, _, i + 1, .cons h t => .cons h (RepL.eraseIdx i t)
theorem RepL.dropLast : ∀ {ds : List D} {vs : List V}, RepL K F H ds vs → RepL K F H ds.dropLast vs.dropLast
  | _, _, .nil => .nil
  | _, _, .cons _ .nil => .nil
  | _, _, .cons h (.cons h2 t) => .cons h (RepL.dropLast (.cons h2 t))
theorem RepL.ints : ∀ {ns : List Int} {vs : List V}, RepL K F H (ns.map D.int) vs → vs = ns.map V.int
  | [], _, .nil => rfl
  | n :: ns, _, .cons h t => by
    cases h
    rw [RepL.ints t]
    rfl
theorem RepL.ofInts : ∀ (ns : List Int), RepL K F H (ns.map D.int) (ns.map V.int)
  | [] => .nil
  | n :: ns => .cons (.int n) (RepL.ofInts ns)
theorem RepL.strs : ∀ {ns : List Str} {vs : List V}, RepL K F H (ns.map D.str) vs → vs = ns.map V.str
  | [], _, .nil => rfl
  | n :: ns, _, .cons h t => by
    cases h
    rw [RepL.strs t]
    rfl
theorem RepL.ofStrs : ∀ (ns : List Str), RepL K F H (ns.map D.str) (ns.map V.str)
  | [] => .nil
  | n :: ns => .cons (.str n) (RepL.ofStrs ns)
end

/-! ### what stands at a cell -/
inductive RepAt (K : PySem.W.Frag) (F : Addr → Prop) (H : Hp) (a : Addr) : D → Prop
  | lst {ds : List D} {xs : List V} (h : H a = some (.lst xs)) (r : RepL K F H ds xs) : RepAt K F H a (.lst ds)
  | dK {vs : List D} {kvs : List (Key × V)} (h : H a = some (.dK kvs)) (r : RepL K F H vs (kvs.map (·.2))) : RepAt K F H a (.dK (kvs.map (·.1)) vs)
  | dT {vs : List D} {o : Obj} {kvs : List (List Int × V)} (h : H a = some (dro a o)) (q : DRaw K H a o kvs) (r : RepL K F H vs (kvs.map (·.2))) : RepAt K F H a (.dT (kvs.map (·.1)) vs)
  | ins {C : Str} {vs : List D} {dx : Addr} {fs : List (Str × V)} (h : H a = some (.ins (He.ga K C) dx fs)) (r : RepL K F H vs (fs.map (·.2))) : RepAt K F H a (.ins C (fs.map (·.1)) vs)
section
variable {K : PySem.W.Frag} {F F' : Addr → Prop} {H H' : Hp} {a : Addr} {d : D}
theorem RepAt.mut (h : RepAt K F H a d) : ∃ o, H a = some o ∧ Mut (some o) := by
  cases h with
  | lst h _ => exact ⟨_, h, trivial⟩
  | dK h _ => exact ⟨_, h, trivial⟩
  | dT h _ _ => exact ⟨_, h, trivial⟩
  | ins h _ => exact ⟨_, h, trivial⟩
theorem RepAt.rep (h : RepAt K F H a d) (f : F a) : Rep K F H d (.ref a) := by
  cases h with
  | lst h r => exact .lst f h r
  | dK h r => exact .dK f h r
  | dT h q r => exact .dT f h q r
  | ins h r => exact .ins f h r
theorem RepAt.mono (hk : ∀ a o, H a = some o → (F a ∨ ¬ Mut (some o)) → H' a = some o) (hF : ∀ a, F a → F' a) (ha : ∀ o, H a = some o → H' a = some o) (h : RepAt K F H a d) : RepAt K F' H' a d := by
  cases h with
  | lst h r => exact .lst (ha _ h) (r.mono hk hF)
  | dK h r => exact .dK (ha _ h) (r.mono hk hF)
  | dT h q r => exact .dT (ha _ h) (draw_mono hk q) (r.mono hk hF)
  | ins h r => exact .ins (ha _ h) (r.mono hk hF)
end

structure Rel (K : PySem.W.Frag) (G : Gh) (μ : Store) (H : Hp) : Prop where
  dom : ∀ a, G.F a → ∃ o, H a = some o ∧ Mut (some o)
  len : G.am.length = μ.length
  cell : ∀ (c : Nat) (d : D), μ[c]? = some (some d) → ∃ a, G.am[c]? = some (some a) ∧ ¬ G.F a ∧ RepAt K G.F H a d
  live : ∀ (c : Nat) (a : Addr), G.am[c]? = some (some a) → ∃ d, μ[c]? = some (some d)
  inj : ∀ (c c' : Nat) (a : Addr), G.am[c]? = some (some a) → G.am[c']? = some (some a) → c = c'

/-- what a step leaves -/
structure Ext (G : Gh) (H : Hp) (G' : Gh) (H' : Hp) : Prop where
  keep : ∀ a o, H a = some o → some a ∉ G.am → H' a = some o
  F : ∀ a, G.F a → G'.F a
  newF : ∀ a, G'.F a → G.F a ∨ H a = none ∨ some a ∈ G.am
  newA : ∀ a, some a ∈ G'.am → some a ∈ G.am ∨ H a = none
  back : ∀ (c : Nat) (a : Addr), c < G.am.length → G'.am[c]? = some (some a) → G.am[c]? = some (some a)
  le : G.am.length ≤ G'.am.length
  ex : G'.ex = G.ex
  kept : ∀ a o, H a = some o → ∃ o', H' a = some o'

section
variable {K : PySem.W.Frag} {G G1 G2 : Gh} {H H1 H2 : Hp} {μ μ1 : Store}
theorem Ext.refl : Ext G H G H := ⟨fun _ _ h _ => h, fun _ h => h, fun _ h => .inl h, fun _ h => .inl h, fun _ _ _ h => h, Nat.le_refl _, rfl, fun _ o h => ⟨o, h⟩⟩
theorem Ext.trans (x : Ext G H G1 H1) (y : Ext G1 H1 G2 H2) : Ext G H G2 H2 where
  keep := fun a o h n => y.keep a o (x.keep a o h n) fun z => by
    rcases x.newA a z with q | q
    · exact n q
    · rw [q] at h; cases h
  F := fun a h => y.F a (x.F a h)
  newF := fun a h => by
    rcases y.newF a h with q | q | q
    · exact x.newF a q
    · cases e : H a with
      | none => exact .inr (.inl rfl)
      | some o =>
        obtain ⟨o', e'⟩ := x.kept a o e
        rw [q] at e'; cases e'
    · rcases x.newA a q with q | q
      · exact .inr (.inr q)
      · exact .inr (.inl q)
  newA := fun a h => by
    rcases y.newA a h with q | q
    · exact x.newA a q
    · cases e : H a with
      | none => exact .inr rfl
      | some o =>
        obtain ⟨o', e'⟩ := x.kept a o e
        rw [q] at e'; cases e'
  back := fun c a hc h => x.back c a hc (y.back c a (Nat.lt_of_lt_of_le hc x.le) h)
  le := Nat.le_trans x.le y.le
  ex := y.ex.trans x.ex
  kept := fun a o h => by
    obtain ⟨o', e⟩ := x.kept a o h
    exact y.kept a o' e

theorem mem_am {l : List (Option Addr)} {a : Addr} (h : some a ∈ l) : ∃ c : Nat, l[c]? = some (some a) := by
  obtain ⟨c, hc, e⟩ := List.mem_iff_getElem.mp h
  exact ⟨c, by rw [List.getElem?_eq_getElem hc, e]⟩
theorem Rel.at_am (R : Rel K G μ H) {a : Addr} (h : some a ∈ G.am) : ¬ G.F a ∧ ∃ o, H a = some o ∧ Mut (some o) := by
  obtain ⟨c, e⟩ := mem_am h
  obtain ⟨d, ed⟩ := R.live c a e
  obtain ⟨a', e', nf, ra⟩ := R.cell c d ed
  rw [e] at e'
  cases e'
  exact ⟨nf, ra.mut⟩
theorem Rel.hk (R : Rel K G μ H) (x : Ext G H G1 H1) : ∀ a o, H a = some o → (G.F a ∨ ¬ Mut (some o)) → H1 a = some o := fun a o h q =>
  x.keep a o h fun m => by
    obtain ⟨nf, o', e, mu⟩ := R.at_am m
    rw [h] at e
    cases e
    rcases q with q | q
    · exact nf q
    · exact q mu
theorem Rel.rep (R : Rel K G μ H) (x : Ext G H G1 H1) {d : D} {v : V} (h : Rep K G.F H d v) : Rep K G1.F H1 d v := h.mono (R.hk x) x.F
theorem Rel.repL (R : Rel K G μ H) (x : Ext G H G1 H1) {d : List D} {v : List V} (h : RepL K G.F H d v) : RepL K G1.F H1 d v := h.mono (R.hk x) x.F

def ExcAt (K : PySem.W.Frag) (G : Gh) (H : Hp) (e : Exc) (d : Option Addr) : Prop :=
  (e.fs = [] ∧ e.vs = [] ∧ d = none) ∨ ∃ a fs, d = some a ∧ H a = some (.xd fs) ∧ fs.map (·.1) = e.fs ∧ RepL K G.F H e.vs (fs.map (·.2))
theorem Rel.exc (R : Rel K G μ H) (x : Ext G H G1 H1) {e : Exc} {d : Option Addr} (h : ExcAt K G H e d) : ExcAt K G1 H1 e d := by
  rcases h with h | ⟨a, fs, e1, e2, e3, e4⟩
  · exact .inl h
  · exact .inr ⟨a, fs, e1, R.hk x _ _ e2 (.inr fun z => z), e3, R.repL x e4⟩
/-- what a slot holds -/
def SlRep (K : PySem.W.Frag) (G : Gh) (H : Hp) : Sl → V → Prop
  | .v d, v => Rep K G.F H d v
  | .c n, v => n < G.am.length ∧ ∀ a, G.am[n]? = some (some a) → v = .ref a
  | .x e, v => ∃ a d, G.ex = some (a, e.cls, d) ∧ v = .ref a ∧ ExcAt K G H e d
theorem Rel.sl (R : Rel K G μ H) (x : Ext G H G1 H1) : ∀ {s : Sl} {v : V}, SlRep K G H s v → SlRep K G1 H1 s v
  | .v _, _, h => R.rep x h
  | .c _, _, ⟨h1, h2⟩ => ⟨Nat.lt_of_lt_of_le h1 x.le, fun a e => h2 a (x.back _ a h1 e)⟩
  | .x _, _, ⟨a, d, e1, e2, e3⟩ => ⟨a, d, by rw [x.ex]; exact e1, e2, R.exc x e3⟩
abbrev SlReps (K : PySem.W.Frag) (G : Gh) (H : Hp) : List Sl → List V → Prop := Paired (SlRep K G H)
theorem Rel.sls (R : Rel K G μ H) (x : Ext G H G1 H1) {ss : List Sl} {vs : List V} (h : SlReps K G H ss vs) : SlReps K G1 H1 ss vs := Paired.mapP h fun _ _ q => R.sl x q
structure EnvOk (K : PySem.W.Frag) (G : Gh) (H : Hp) (ρ : Env) (σ : L2.St) : Prop where
  len : ρ.length = σ.length
  has : ∀ (i : Nat) (s : Sl), ρ[i]? = some (some s) → ∃ v, σ[i]? = some (some v) ∧ SlRep K G H s v
theorem Rel.env (R : Rel K G μ H) (x : Ext G H G1 H1) {ρ : Env} {σ : L2.St} (h : EnvOk K G H ρ σ) : EnvOk K G1 H1 ρ σ :=
  ⟨h.len, fun i s e => by
    obtain ⟨v, e1, r⟩ := h.has i s e
    exact ⟨v, e1, R.sl x r⟩⟩
theorem EnvOk.set {ρ : Env} {σ : L2.St} {s : Sl} {v : V} (h : EnvOk K G H ρ σ) (r : SlRep K G H s v) (i : Nat) : EnvOk K G H (ρ.set i (some s)) (σ.set i (some v)) := by
  refine ⟨by simpa using h.len, fun j t e => ?_⟩
  by_cases hj : i = j
  · subst hj
    by_cases hl : i < ρ.length
    · rw [List.getElem?_set_self hl] at e
      cases e
      exact ⟨v, by rw [List.getElem?_set_self (h.len ▸ hl)], r⟩
    · rw [List.getElem?_eq_none (by simpa using hl)] at e
      cases e
  · rw [List.getElem?_set_ne hj] at e
    obtain ⟨w, e1, r1⟩ := h.has j t e
    exact ⟨w, by rw [List.getElem?_set_ne hj]; exact e1, r1⟩
theorem EnvOk.unset {ρ : Env} {σ : L2.St} (h : EnvOk K G H ρ σ) (i : Nat) : EnvOk K G H (ρ.set i none) (σ.set i none) := by
  refine ⟨by simpa using h.len, fun j t e => ?_⟩
  by_cases hj : i = j
  · subst hj
    by_cases hl : i < ρ.length
    · rw [List.getElem?_set_self hl] at e; cases e
    · rw [List.getElem?_eq_none (by simpa using hl)] at e; cases e
  · rw [List.getElem?_set_ne hj] at e
    obtain ⟨w, e1, r1⟩ := h.has j t e
    exact ⟨w, by rw [List.getElem?_set_ne hj]; exact e1, r1⟩
/-- forgetting on our side -/
theorem EnvOk.drop {ρ : Env} {σ : L2.St} (h : EnvOk K G H ρ σ) (i : Nat) : EnvOk K G H (ρ.set i none) σ := by
  refine ⟨by simpa using h.len, fun j t e => ?_⟩
  by_cases hj : i = j
  · subst hj
    by_cases hl : i < ρ.length
    · rw [List.getElem?_set_self hl] at e; cases e
    · rw [List.getElem?_eq_none (by simpa using hl)] at e; cases e
  · rw [List.getElem?_set_ne hj] at e
    exact h.has j t e
end

/-! ### what a slot's content is -/
def Sl.get (μ : Store) : Sl → Option D
  | .v d => some d
  | .c n => (μ[n]?).join
  | .x _ => none
section
variable {K : PySem.W.Frag} {G G1 : Gh} {H H1 : Hp} {μ : Store}
/-- the content, read: it stands at an address, or it is laid for good -/
inductive Now (K : PySem.W.Frag) (F : Addr → Prop) (H : Hp) : D → V → Prop
  | rep {d : D} {v : V} (h : Rep K F H d v) : Now K F H d v
  | at_ {d : D} {a : Addr} (h : RepAt K F H a d) : Now K F H d (.ref a)
theorem Rel.now (R : Rel K G μ H) {s : Sl} {v : V} {d : D} (h : SlRep K G H s v) (e : s.get μ = some d) : Now K G.F H d v := by
  cases s with
  | v d' => cases e; exact .rep h
  | c n =>
    have e' : μ[n]? = some (some d) := by
      have e1 : (μ[n]?).join = some d := e
      cases q : μ[n]? with
      | none => rw [q] at e1; cases e1
      | some o => rw [q] at e1; exact congrArg some e1
    obtain ⟨a, ea, _, ra⟩ := R.cell n d e'
    rw [h.2 a ea]
    exact .at_ ra
  | x _ => cases e
theorem Now.lst {F : Addr → Prop} {ds : List D} {v : V} (h : Now K F H (.lst ds) v) : ∃ a xs, v = .ref a ∧ H a = some (.lst xs) ∧ RepL K F H ds xs := by
  cases h with
  | rep h => cases h with
    | lst f h r => exact ⟨_, _, rfl, h, r⟩
  | at_ h => cases h with
    | lst h r => exact ⟨_, _, rfl, h, r⟩
theorem Now.sql {F : Addr → Prop} {ds : List D} {v : V} (h : Now K F H (.lst ds) v) : ∃ a xs, v = .ref a ∧ SqL K H a xs ∧ RepL K F H ds xs := by
  obtain ⟨a, xs, e, h, r⟩ := h.lst
  exact ⟨a, xs, e, .of h, r⟩
theorem Now.fz {F : Addr → Prop} {ds : List D} {v : V} (h : Now K F H (.fz ds) v) : ∃ a xs, v = .ref a ∧ SqL K H a xs ∧ RepL K F H ds xs := by
  cases h with
  | rep h => cases h with
    | fz h r => exact ⟨_, _, rfl, h.sq, r⟩
  | at_ h => cases h
theorem Now.tp {F : Addr → Prop} {ds : List D} {v : V} (h : Now K F H (.tp ds) v) : ∃ a xs, v = .ref a ∧ H a = some (.tup xs) ∧ RepL K F H ds xs := by
  cases h with
  | rep h => cases h with
    | tp h r => exact ⟨_, _, rfl, h, r⟩
  | at_ h => cases h
theorem Now.tup {F : Addr → Prop} {ds : List D} {v : V} (h : Now K F H (.tup ds) v) : ∃ a xs, v = .ref a ∧ TupAt K H a xs ∧ RepL K F H ds xs := by
  cases h with
  | rep h => cases h with
    | tup h r => exact ⟨_, _, rfl, h, r⟩
  | at_ h => cases h
theorem Now.int {F : Addr → Prop} {i : Int} {v : V} (h : Now K F H (.int i) v) : v = .int i := by
  cases h with
  | rep h => cases h; rfl
  | at_ h => cases h
theorem Now.bl {F : Addr → Prop} {i : Bool} {v : V} (h : Now K F H (.bl i) v) : v = .bl i := by
  cases h with
  | rep h => cases h; rfl
  | at_ h => cases h
theorem Now.str {F : Addr → Prop} {i : Str} {v : V} (h : Now K F H (.str i) v) : v = .str i := by
  cases h with
  | rep h => cases h; rfl
  | at_ h => cases h
theorem Now.non {F : Addr → Prop} {v : V} (h : Now K F H .non v) : v = .non := by
  cases h with
  | rep h => cases h; rfl
  | at_ h => cases h
end

/-! ### what comes of an expression -/
def Post {α β : Type} (Rp : Gh → Hp → α → β → Prop) (K : PySem.W.Frag) (W : WX) (σ : L2.St) (G : Gh) (H : Hp) (o : Out α) (Q : β → Hp → Prop) : Prop :=
  match o with
  | .stuck => False
  | .ok a μ => ∀ b G' H', Ext G H G' H' → Rel K G' μ H' → Rp G' H' a b → Q b H'
  | .exc e μ => ∀ d G' H', Ext G H G' H' → Rel K G' μ H' → ExcAt K G' H' e d → W (.ref (He.ga K e.cls)) d σ H'
section
variable {K : PySem.W.Frag} {G G1 : Gh} {H H1 : Hp} {μ : Store} {W : WX} {σ : L2.St} {α β α' β' : Type} {Rp : Gh → Hp → α → β → Prop} {Rp' : Gh → Hp → α' → β' → Prop}
theorem Post.shift {o : Out α} {Q : β → Hp → Prop} (h : Post Rp K W σ G H o Q) (x : Ext G H G1 H1) : Post Rp K W σ G1 H1 o Q := by
  cases o with
  | stuck => exact h
  | ok a μ => exact fun b G' H' y => h b G' H' (x.trans y)
  | exc e μ => exact fun d G' H' y => h d G' H' (x.trans y)
theorem Post.bind {o : Out α} {k : α → Store → Out α'} {Q : β' → Hp → Prop} {Q1 : β → Hp → Prop} (h : Post Rp' K W σ G H (o.bind k) Q)
    (hk : ∀ a μ1 b G1 H1, Ext G H G1 H1 → Rel K G1 μ1 H1 → Rp G1 H1 a b → Post Rp' K W σ G1 H1 (k a μ1) Q → Q1 b H1) : Post Rp K W σ G H o Q1 := by
  cases o with
  | stuck => exact h
  | ok a μ => exact fun b G' H' x R r => hk a μ b G' H' x R r (Post.shift h x)
  | exc e μ => exact h
end
theorem Post.bindE {K : PySem.W.Frag} {G : Gh} {H : Hp} {W : WX} {σ : L2.St} {α β α' β' : Type} {Rp : Gh → Hp → α → β → Prop} {Rp' : Gh → Hp → α' → β' → Prop} {o : Out α} {k : α → Store → Out α'} {Q : β' → Hp → Prop} {Q1 : β → Hp → Prop} (h : Post Rp' K W σ G H (o.bind k) Q)
    (hk : ∀ a μ1 b G1 H1, Ext G H G1 H1 → Rel K G1 μ1 H1 → Rp G1 H1 a b → Post Rp' K W σ G1 H1 (k a μ1) Q → o = .ok a μ1 → Q1 b H1) : Post Rp K W σ G H o Q1 := by
  cases o with
  | stuck => exact h
  | ok a μ => exact fun b G' H' x R r => hk a μ b G' H' x R r (Post.shift h x) rfl
  | exc e μ => exact h
structure Here (K : PySem.W.Frag) (P : Option (Addr × Str × Option Addr) → Prop) (G : Gh) (μ : Store) (ρ : Env) (σ : L2.St) (H : Hp) : Prop where
  p : P G.ex
  rel : Rel K G μ H
  env : EnvOk K G H ρ σ
theorem Here.step {K : PySem.W.Frag} {P : Option (Addr × Str × Option Addr) → Prop} {G G1 : Gh} {μ μ1 : Store} {ρ : Env} {σ : L2.St} {H H1 : Hp} (h : Here K P G μ ρ σ H) (x : Ext G H G1 H1) (R : Rel K G1 μ1 H1) : Here K P G1 μ1 ρ σ H1 :=
  ⟨by rw [x.ex]; exact h.p, R, h.rel.env x h.env⟩
abbrev PX := Option (Addr × Str × Option Addr) → Prop
abbrev FE := Env → Store → Out Sl
abbrev FT := Env → Store → Out Bool
abbrev FA := Env → Store → Out (List Sl)
def TD (K : PySem.W.Frag) (P : PX) (W : WX) (f : FE) : TE := fun σ H Q => ∃ G μ ρ, Here K P G μ ρ σ H ∧ Post (SlRep K) K W σ G H (f ρ μ) Q
def TDT (K : PySem.W.Frag) (P : PX) (W : WX) (f : FT) : TT := fun σ H Q => ∃ G μ ρ, Here K P G μ ρ σ H ∧ Post (fun _ _ a b => a = b) K W σ G H (f ρ μ) Q
def TDA (K : PySem.W.Frag) (P : PX) (W : WX) (f : FA) : TA := fun σ H Q => ∃ G μ ρ, Here K P G μ ρ σ H ∧ Post (SlReps K) K W σ G H (f ρ μ) Q
abbrev DE (X : Cx) (P : PX) (W : WX) (e : Expr) (f : FE) : Prop := PE X e (TD X.K P W f)
abbrev DT (X : Cx) (P : PX) (W : WX) (e : Expr) (f : FT) : Prop := PT X e (TDT X.K P W f)
abbrev DW (X : Cx) (P : PX) (W : WX) (e : Expr) (f : FT) : Prop := PW X e (TDT X.K P W f)
structure DA (X : Cx) (P : PX) (W : WX) (es : List Expr) (f : FA) : Prop where
  pa : PA X es (TDA X.K P W f)
  ln : ∀ ρ μ ss μ', f ρ μ = .ok ss μ' → ss.length = es.length

theorem _root_.L2.PE.to {X : Cx} {e : Expr} {t t' : TE} (h : PE X e t) (w : ∀ σ H Q, t' σ H Q → t σ H Q) : PE X e t' := ⟨fun pins s σ H Q I q => h.run pins s σ H Q I (w σ H Q q)⟩
theorem _root_.L2.PT.to {X : Cx} {e : Expr} {t t' : TT} (h : PT X e t) (w : ∀ σ H Q, t' σ H Q → t σ H Q) : PT X e t' := ⟨fun pins s σ H Q I q => h.run pins s σ H Q I (w σ H Q q)⟩
theorem _root_.L2.PW.to {X : Cx} {e : Expr} {t t' : TT} (h : PW X e t) (w : ∀ σ H Q, t' σ H Q → t σ H Q) : PW X e t' := ⟨fun wh pins s σ H Q I q => h.run wh pins s σ H Q I (w σ H Q q)⟩
theorem _root_.L2.PA.to {X : Cx} {e : List Expr} {t t' : TA} (h : PA X e t) (w : ∀ σ H Q, t' σ H Q → t σ H Q) : PA X e t' := ⟨fun pos pins s σ H Q I q => h.run pos pins s σ H Q I (w σ H Q q)⟩
theorem _root_.L2.PC.to {X : Cx} {op : CmpOp} {a b : Expr} {t t' : TE} (h : PC X op a b t) (w : ∀ σ H Q, t' σ H Q → t σ H Q) : PC X op a b t' := ⟨fun pins s σ H Q I q => h.run pins s σ H Q I (w σ H Q q)⟩
theorem _root_.L2.PS.to {X : Cx} {e : Stmt} {t t' : TS} (h : PS X e t) (w : ∀ D σ H, t' D σ H → t D σ H) : PS X e t' := ⟨fun pins s σ H Q I q => h.run pins s σ H Q I (w Q σ H q)⟩
theorem _root_.L2.PSs.to {X : Cx} {e : List Stmt} {t t' : TS} (h : PSs X e t) (w : ∀ D σ H, t' D σ H → t D σ H) : PSs X e t' := ⟨fun pins s σ H Q I q => h.run pins s σ H Q I (w Q σ H q)⟩

/-! ### new objects -/
section
variable {K : PySem.W.Frag} {G G1 : Gh} {H H1 : Hp} {μ : Store} {W : WX} {σ : L2.St}
/-- a new object, laid for good (fz: a tuple needs no F) -/
def Gh.add (G : Gh) (p : Addr) : Gh := { G with F := fun a => G.F a ∨ a = p }
theorem Ext.new {p : Addr} {o : HO} (hp : H p = none) : Ext G H G (upd H p o) where
  keep := fun a u h _ => by rw [upd_ne (ne_of_none h hp)]; exact h
  F := fun _ h => h
  newF := fun _ h => .inl h
  newA := fun _ h => .inl h
  back := fun _ _ _ h => h
  le := Nat.le_refl _
  ex := rfl
  kept := fun a u h => ⟨u, by rw [upd_ne (ne_of_none h hp)]; exact h⟩
theorem Ext.newF' {p : Addr} {o : HO} (hp : H p = none) : Ext G H (G.add p) (upd H p o) where
  keep := fun a u h _ => by rw [upd_ne (ne_of_none h hp)]; exact h
  F := fun _ h => .inl h
  newF := fun a h => by
    rcases h with h | rfl
    · exact .inl h
    · exact .inr (.inl hp)
  newA := fun _ h => .inl h
  back := fun _ _ _ h => h
  le := Nat.le_refl _
  ex := rfl
  kept := fun a u h => ⟨u, by rw [upd_ne (ne_of_none h hp)]; exact h⟩
theorem Rel.cellMono (R : Rel K G μ H) (x : Ext G H G1 H1) {c : Nat} {d : D} {a : Addr} (ha : G.am[c]? = some (some a)) (e : μ[c]? = some (some d)) (k : ∀ o, H a = some o → H1 a = some o) : RepAt K G1.F H1 a d := by
  obtain ⟨a', e', _, ra⟩ := R.cell c d e
  rw [ha] at e'
  cases e'
  exact ra.mono (R.hk x) x.F k
theorem Rel.new (R : Rel K G μ H) {p : Addr} {o : HO} (hp : H p = none) : Rel K G μ (upd H p o) where
  dom := fun a f => by
    obtain ⟨u, h, m⟩ := R.dom a f
    exact ⟨u, by rw [upd_ne (ne_of_none h hp)]; exact h, m⟩
  len := R.len
  cell := fun c d e => by
    obtain ⟨a, ea, nf, ra⟩ := R.cell c d e
    exact ⟨a, ea, nf, R.cellMono (Ext.new hp) ea e fun u h => by rw [upd_ne (ne_of_none h hp)]; exact h⟩
  live := R.live
  inj := R.inj
theorem Rel.newF (R : Rel K G μ H) {p : Addr} {o : HO} (hp : H p = none) (m : Mut (some o)) : Rel K (G.add p) μ (upd H p o) where
  dom := fun a f => by
    rcases f with f | rfl
    · obtain ⟨u, h, m⟩ := R.dom a f
      exact ⟨u, by rw [upd_ne (ne_of_none h hp)]; exact h, m⟩
    · exact ⟨o, upd_same, m⟩
  len := R.len
  cell := fun c d e => by
    obtain ⟨a, ea, nf, ra⟩ := R.cell c d e
    obtain ⟨u, hu, _⟩ := ra.mut
    refine ⟨a, ea, ?_, R.cellMono (Ext.newF' hp) ea e fun u h => by rw [upd_ne (ne_of_none h hp)]; exact h⟩
    rintro (f | rfl)
    · exact nf f
    · rw [hp] at hu; cases hu
  live := R.live
  inj := R.inj
/-- a new cell -/
def Gh.push (G : Gh) (p : Addr) : Gh := { G with am := G.am ++ [some p] }
theorem Ext.cell {p : Addr} {o : HO} (hp : H p = none) : Ext G H (G.push p) (upd H p o) where
  keep := fun a u h _ => by rw [upd_ne (ne_of_none h hp)]; exact h
  F := fun _ h => h
  newF := fun _ h => .inl h
  newA := fun a h => by
    rcases List.mem_append.mp h with h | h
    · exact .inl h
    · have e : a = p := by simpa using h
      rw [e]
      exact .inr hp
  back := fun c a hc h => by
    have h' : (G.am ++ [some p])[c]? = some (some a) := h
    rw [List.getElem?_append_left hc] at h'
    exact h'
  le := by show G.am.length ≤ (G.am ++ [some p]).length; simp
  ex := rfl
  kept := fun a u h => ⟨u, by rw [upd_ne (ne_of_none h hp)]; exact h⟩
theorem Rel.newCell (R : Rel K G μ H) {p : Addr} {o : HO} {d : D} (hp : H p = none) (m : RepAt K (G.push p).F (upd H p o) p d) : Rel K (G.push p) (μ ++ [some d]) (upd H p o) where
  dom := (R.new hp).dom
  len := by show (G.am ++ [some p]).length = _; simp [R.len]
  cell := fun c d' e => by
    by_cases hc : c < μ.length
    · rw [List.getElem?_append_left hc] at e
      obtain ⟨a, ea, nf, ra⟩ := R.cell c d' e
      refine ⟨a, ?_, nf, R.cellMono (Ext.cell hp) ea e fun u h => by rw [upd_ne (ne_of_none h hp)]; exact h⟩
      show (G.am ++ [some p])[c]? = _
      rw [List.getElem?_append_left (by rw [R.len]; exact hc)]
      exact ea
    · have hc' : c = μ.length := by
        have := (List.getElem?_eq_some_iff.mp e).1
        simp at this
        omega
      subst hc'
      rw [List.getElem?_append_right (Nat.le_refl _), Nat.sub_self] at e
      have e' : d = d' := by simpa using e
      subst e'
      refine ⟨p, ?_, ?_, m⟩
      · show (G.am ++ [some p])[μ.length]? = _
        rw [List.getElem?_append_right (by rw [R.len]; exact Nat.le_refl _), R.len, Nat.sub_self]
        rfl
      · intro f
        obtain ⟨u, h, _⟩ := R.dom p f
        rw [hp] at h; cases h
  live := fun c a e => by
    have e' : (G.am ++ [some p])[c]? = some (some a) := e
    by_cases hc : c < G.am.length
    · rw [List.getElem?_append_left hc] at e'
      obtain ⟨d', ed⟩ := R.live c a e'
      exact ⟨d', by rw [List.getElem?_append_left (by rw [← R.len]; exact hc)]; exact ed⟩
    · have hc' : c = μ.length := by
        have h1 := (List.getElem?_eq_some_iff.mp e').1
        have h2 := R.len
        rw [List.length_append, List.length_singleton] at h1
        omega
      subst hc'
      exact ⟨d, by simp⟩
  inj := fun c c' a e e' => by
    have h1 : (G.am ++ [some p])[c]? = some (some a) := e
    have h2 : (G.am ++ [some p])[c']? = some (some a) := e'
    have old : ∀ c, G.am[c]? = some (some a) → a ≠ p := fun c q z => by
      obtain ⟨nf, u, hu, _⟩ := R.at_am (List.mem_of_getElem? q)
      rw [z, hp] at hu; cases hu
    by_cases hc : c < G.am.length <;> by_cases hc' : c' < G.am.length
    · rw [List.getElem?_append_left hc] at h1
      rw [List.getElem?_append_left hc'] at h2
      exact R.inj c c' a h1 h2
    · rw [List.getElem?_append_left hc] at h1
      rw [List.getElem?_append_right (by omega)] at h2
      have h3 := List.mem_of_getElem? h2
      have : a = p := by simpa using h3
      exact absurd this (old c h1)
    · rw [List.getElem?_append_left hc'] at h2
      rw [List.getElem?_append_right (by omega)] at h1
      have h3 := List.mem_of_getElem? h1
      have : a = p := by simpa using h3
      exact absurd this (old c' h2)
    · have l1 := (List.getElem?_eq_some_iff.mp h1).1
      have l2 := (List.getElem?_eq_some_iff.mp h2).1
      simp at l1 l2
      omega
/-- a list is made: b, as a cell -/
def mk (b : Bool) (d : D) (μ : Store) : Out Sl := if b = true then .ok (.c μ.length) (μ ++ [some d]) else .ok (.v d) μ
theorem Post.mkO {b : Bool} {d : D} {Q : VK} {p : Addr} {o : HO} (R : Rel K G μ H) (h : Post (SlRep K) K W σ G H (mk b d μ) Q) (hp : H p = none) (hm : Mut (some o)) (hr : ∀ F : Addr → Prop, (∀ a, G.F a → F a) → RepAt K F (upd H p o) p d) : Q (.ref p) (upd H p o) := by
  cases b with
  | true =>
    refine h (.ref p) (G.push p) (upd H p o) (Ext.cell hp) (R.newCell hp (hr _ fun _ q => q)) ⟨?_, fun a e => ?_⟩
    · show μ.length < (G.am ++ [some p]).length
      simp [R.len]
    · have e' : (G.am ++ [some p])[μ.length]? = some (some a) := e
      rw [← R.len] at e'
      have e2 : p = a := by simpa using e'
      rw [e2]
  | false => exact h (.ref p) (G.add p) (upd H p o) (Ext.newF' hp) (R.newF hp hm) ((hr _ fun _ q => .inl q).rep (.inr rfl))
theorem Post.mkL {b : Bool} {ds : List D} {xs : List V} {Q : VK} {p : Addr} (R : Rel K G μ H) (h : Post (SlRep K) K W σ G H (mk b (.lst ds) μ) Q) (hp : H p = none) (r : RepL K G.F H ds xs) : Q (.ref p) (upd H p (.lst xs)) :=
  h.mkO R hp trivial fun F hF => .lst upd_same (r.mono (fun a o h _ => by rw [upd_ne (ne_of_none h hp)]; exact h) hF)
theorem Post.mkT {ds : List D} {xs : List V} {Q : VK} {p : Addr} {o : Obj} (R : Rel K G μ H) (h : Post (SlRep K) K W σ G H (.ok (.v (.tup ds)) μ) Q) (hp : H p = none) (so : Sol o) (r : RepL K G.F H ds xs) : Q (.ref p) (upd H p (.frz o (.tup xs))) :=
  h (.ref p) G (upd H p (.frz o (.tup xs))) (Ext.new hp) (R.new hp) (Rep.tup (.inl ⟨o, upd_same, so⟩) (r.mono (fun a o h _ => by rw [upd_ne (ne_of_none h hp)]; exact h) fun _ q => q))
/-- a value as it is -/
theorem Post.val {d : D} {v : V} {Q : VK} (R : Rel K G μ H) (h : Post (SlRep K) K W σ G H (.ok (.v d) μ) Q) (r : Rep K G.F H d v) : Q v H := h v G H .refl R r
theorem Post.slot {s : Sl} {v : V} {Q : VK} (R : Rel K G μ H) (h : Post (SlRep K) K W σ G H (.ok s μ) Q) (r : SlRep K G H s v) : Q v H := h v G H .refl R r
end
end DL

namespace DL
open PySem PySem.Spec PyProof.Rows L2

/-! ### expressions -/
def fVar (i : Nat) : FE := fun ρ μ => match ρ[i]? with
  | some (some s) => .ok s μ
  | _ => .stuck
def fC (d : D) : FE := fun _ μ => .ok (.v d) μ
def fTV (f : FT) : FE := fun ρ μ => (f ρ μ).bind fun b μ1 => .ok (.v (.bl b)) μ1
def fTest (f : FE) : FT := fun ρ μ => (f ρ μ).bind fun s μ1 => match s with
  | .v (.bl b) => .ok b μ1
  | _ => .stuck
def fBin (fa fb : FE) (g : Sl → Sl → Store → Out Sl) : FE := fun ρ μ => (fa ρ μ).bind fun s μ1 => (fb ρ μ1).bind fun t μ2 => g s t μ2
def fUn (fa : FE) (g : Sl → Store → Out Sl) : FE := fun ρ μ => (fa ρ μ).bind fun s μ1 => g s μ1
def fAnd (f g : FT) : FT := fun ρ μ => (f ρ μ).bind fun b μ1 => if b = true then g ρ μ1 else .ok false μ1
def fOr (f g : FT) : FT := fun ρ μ => (f ρ μ).bind fun b μ1 => if b = true then .ok true μ1 else g ρ μ1
def fNot (f : FT) : FT := fun ρ μ => (f ρ μ).bind fun b μ1 => .ok (!b) μ1
def fIf (c : FT) (f g : FE) : FE := fun ρ μ => (c ρ μ).bind fun b μ1 => if b = true then f ρ μ1 else g ρ μ1
def fNil : FA := fun _ μ => .ok [] μ
def fCons (f : FE) (g : FA) : FA := fun ρ μ => (f ρ μ).bind fun s μ1 => (g ρ μ1).bind fun ss μ2 => .ok (s :: ss) μ2
def allV : List Sl → Option (List D)
  | [] => some []
  | .v d :: ss => (allV ss).map (d :: ·)
  | _ :: _ => none
def lim : Nat := 16777216
/-- f(..) -/
def fCall (φ : List Sl → Store → Out Sl) (f : FA) : FE := fun ρ μ => (f ρ μ).bind φ

section
variable {X : Cx} {P : PX} {W : WX} {a b c e : Expr} {es : List Expr} {fa fb fc : FE} {ft fu : FT} {fg : FA} {pos p : Pos}
theorem de_var (i : Nat) {x : Str} (hN : X.N[i]? = some x := by rfl) (hv : Vis X.env.scope x := by first | exact Or.inl rfl | exact Or.inr (Or.inl rfl) | exact Or.inr (Or.inr rfl)) (hd : (x == ("__debug__" : Str)) = false := by decide)
    (hcd : (x == ("__classdict__" : Str)) = false := by decide) : DE X P W (.Name x pos) (fVar i) := (pe_var hN hv hd hcd).to fun σ H Q h => by
  obtain ⟨G, μ, ρ, he, h⟩ := h
  unfold fVar at h
  cases q : ρ[i]? with
  | none => rw [q] at h; exact h.elim
  | some o =>
    rw [q] at h
    cases o with
    | none => exact h.elim
    | some s =>
      obtain ⟨v, e1, r⟩ := he.env.has i s q
      exact ⟨v, e1, Post.slot he.rel h r⟩
theorem de_c {d : D} {v : V} (he : PE X e (tC v)) (r : ∀ F H, Rep X.K F H d v) : DE X P W e (fC d) := he.to fun σ H Q h => by
  obtain ⟨G, μ, ρ, he, h⟩ := h
  exact Post.val he.rel h (r _ _)
theorem de_int {i j} : DE X P W (.Constant (.int i) j pos) (fC (.int i)) := de_c pe_int fun _ _ => .int _
theorem de_bl {i j} : DE X P W (.Constant (.bool i) j pos) (fC (.bl i)) := de_c pe_bl fun _ _ => .bl _
theorem de_non {j} : DE X P W (.Constant .none j pos) (fC .non) := de_c pe_non fun _ _ => .non
theorem de_str {i j} : DE X P W (.Constant (.str i) j pos) (fC (.str i)) := de_c pe_str fun _ _ => .str _
/-- a def, a class as a value -/
theorem de_glo {x : Str} (hg : Gl X x) (hm : X.mg x = some (.ref (He.ga X.K x))) (hd : (x == ("__debug__" : Str)) = false := by decide) : DE X P W (.Name x pos) (fC (.glo x)) := de_c (pe_glob (v := .ref _) hg hm rfl hd) fun _ _ => .glo _
/-- an int that the module holds -/
theorem de_gint {x : Str} {i : Int} {t : Tok} (hg : Gl X x) (hm : X.mg x = some (.int i t)) (hd : (x == ("__debug__" : Str)) = false := by decide) : DE X P W (.Name x pos) (fC (.int i)) := de_c (pe_glob (v := .int i) hg hm ⟨_, rfl⟩ hd) fun _ _ => .int _
theorem de_ty {x : Str} {n : String} (hg : Gl X x) (hm : X.mg x = none) (hv : bootBuiltins x = some (.type n)) (hn : x ≠ "__name__" := by decide) (hd : (x == ("__debug__" : Str)) = false := by decide) : DE X P W (.Name x pos) (fC (.ty n)) :=
  de_c (pe_bltn (v := .ty n) hg hm hv rfl hn hd) fun _ _ => .ty _

/-- what a two-place rule asks, from our side -/
def OpD (K : PySem.W.Frag) (r : R2) (g : Sl → Sl → Store → Out Sl) : Prop := ∀ (G : Gh) (μ : Store) (H : Hp) (σ : L2.St) (W : WX) (s t : Sl) (x y : V) (Q : VK), Rel K G μ H → SlRep K G H s x → SlRep K G H t y → Post (SlRep K) K W σ G H (g s t μ) Q → r x y H Q
theorem TD.bin {K : PySem.W.Frag} {r : R2} {g : Sl → Sl → Store → Out Sl} (hg : OpD K r g) : ∀ σ H Q, TD K P W (fBin fa fb g) σ H Q → tOp r (TD K P W fa) (TD K P W fb) σ H Q := by
  rintro σ H Q ⟨G, μ, ρ, he, h⟩
  refine ⟨G, μ, ρ, he, Post.bind h fun s μ1 x G1 H1 x1 R1 r1 h1 => ⟨G1, μ1, ρ, he.step x1 R1, Post.bind h1 fun t μ2 y G2 H2 x2 R2 r2 h2 => ?_⟩⟩
  exact hg G2 μ2 H2 σ W s t x y Q R2 (R1.sl x2 r1) r2 h2
theorem de_bin {op : Operator} {r : R2} {g : Sl → Sl → Store → Out Sl} (ho : OpR X (binaryOp op) r) (hg : OpD X.K r g) (ha : DE X P W a fa) (hb : DE X P W b fb) : DE X P W (.BinOp a op b pos) (fBin fa fb g) := (pe_op ho ha hb).to (TD.bin hg)
theorem de_cmp {op : CmpOp} {r : R2} {g : Sl → Sl → Store → Out Sl} (ho : OpR X (compareOp op) r) (hg : OpD X.K r g) (hm : behindInMarks op b = false) (ha : DE X P W a fa) (hb : DE X P W b fb) : DE X P W (.Compare a [op] [b] pos) (fBin fa fb g) := (pe_cmpR ho ha hb hm).to (TD.bin hg)
/-- an expression that is a bool, as a test -/
theorem TD.test {K : PySem.W.Frag} : ∀ σ H Q, TDT K P W (fTest fa) σ H Q → tTest (TD K P W fa) σ H Q := by
  rintro σ H Q ⟨G, μ, ρ, he, h⟩
  refine ⟨G, μ, ρ, he, Post.bind h fun s μ1 x G1 H1 x1 R1 r1 h1 => ?_⟩
  match s with
  | .v (.bl k) =>
    cases r1
    exact ⟨k, rfl, h1 k G1 H1 .refl R1 rfl⟩
theorem dt_val (h : DE X P W e fa) (he : ∀ whole, isTrue e X.env whole = (do let v ← whole; standAt e.pos; holding [v] (truthy v)) := by intro _; rfl) : DT X P W e (fTest fa) := (pt_val h he).to fun σ H Q q => TD.test σ H Q q
theorem tTest_mono {t t' : TE} (h : ∀ σ H Q, t' σ H Q → t σ H Q) : ∀ σ H Q, tTest t' σ H Q → tTest t σ H Q := fun σ H Q q => h _ _ _ q
theorem dt_cmp {op : CmpOp} {r : R2} {g : Sl → Sl → Store → Out Sl} (ho : OpR X (compareOp op) r) (hg : OpD X.K r g) (hm : behindInMarks op b = false) (ha : DE X P W a fa) (hb : DE X P W b fb) : DT X P W (.Compare a [op] [b] pos) (fTest (fBin fa fb g)) :=
  (pt_cmpR ho ha hb hm).to fun σ H Q q => TD.bin hg _ _ _ (TD.test σ H Q q)
/-- a < b < c -/
def fChain (fa fb fc : FE) (g g' : Sl → Sl → Store → Out Sl) : FE := fun ρ μ => (fa ρ μ).bind fun s μ1 => (fb ρ μ1).bind fun t μ2 => (g s t μ2).bind fun z μ3 => match z with
  | .v (.bl true) => (fc ρ μ3).bind fun u μ4 => g' t u μ4
  | .v (.bl false) => .ok (.v (.bl false)) μ3
  | _ => .stuck
theorem TD.chain {K : PySem.W.Frag} {r r' : R2} {g g' : Sl → Sl → Store → Out Sl} (hg : OpD K r g) (hg' : OpD K r' g') : ∀ σ H Q, TD K P W (fChain fa fb fc g g') σ H Q → tChain r r' (TD K P W fa) (TD K P W fb) (TD K P W fc) σ H Q := by
  rintro σ H Q ⟨G, μ, ρ, he, h⟩
  refine ⟨G, μ, ρ, he, Post.bind h fun s μ1 x G1 H1 x1 R1 r1 h1 => ⟨G1, μ1, ρ, he.step x1 R1, Post.bind h1 fun t μ2 y G2 H2 x2 R2 r2 h2 => ?_⟩⟩
  refine hg G2 μ2 H2 σ W s t x y _ R2 (R1.sl x2 r1) r2 (Post.bind h2 fun z μ3 w G3 H3 x3 R3 r3 h3 => ?_)
  match z with
  | .v (.bl true) =>
    cases r3
    refine ⟨true, rfl, ?_⟩
    rw [if_pos rfl]
    refine ⟨G3, μ3, ρ, ((he.step x1 R1).step x2 R2).step x3 R3, Post.bind h3 fun u μ4 v G4 H4 x4 R4 r4 h4 => ?_⟩
    exact hg' G4 μ4 H4 σ W t u y v Q R4 (R3.sl x4 (R2.sl x3 r2)) r4 h4
  | .v (.bl false) =>
    cases r3
    refine ⟨false, rfl, ?_⟩
    rw [if_neg Bool.false_ne_true]
    exact Post.val R3 h3 (.bl false)
theorem de_chain {op op' : CmpOp} {r r' : R2} {g g' : Sl → Sl → Store → Out Sl} (ho : OpR X (compareOp op) r) (hg : OpD X.K r g) (ho' : OpR X (compareOp op') r') (hg' : OpD X.K r' g') (ha : DE X P W a fa) (hb : DE X P W b fb) (hc : DE X P W c fc)
    (hm : lastMarks [op, op'] [b, c] = false := by with_unfolding_all rfl) : DE X P W (.Compare a [op, op'] [b, c] pos) (fChain fa fb fc g g') := (pe_chain ho ho' ha hb hc hm).to (TD.chain hg hg')
theorem dt_chain {op op' : CmpOp} {r r' : R2} {g g' : Sl → Sl → Store → Out Sl} (ho : OpR X (compareOp op) r) (hg : OpD X.K r g) (ho' : OpR X (compareOp op') r') (hg' : OpD X.K r' g') (ha : DE X P W a fa) (hb : DE X P W b fb) (hc : DE X P W c fc)
    (hm : lastMarks [op, op'] [b, c] = false := by with_unfolding_all rfl) : DT X P W (.Compare a [op, op'] [b, c] pos) (fTest (fChain fa fb fc g g')) :=
  (pt_chain ho ho' ha hb hc hm).to fun σ H Q q => TD.chain hg hg' _ _ _ (TD.test σ H Q q)

/-! ### and, or, not, if -/
theorem TDT.and {K : PySem.W.Frag} : ∀ σ H Q, TDT K P W (fAnd ft fu) σ H Q → tAnd (TDT K P W ft) (TDT K P W fu) σ H Q := by
  rintro σ H Q ⟨G, μ, ρ, he, h⟩
  refine ⟨G, μ, ρ, he, Post.bind h fun s μ1 x G1 H1 x1 R1 r1 h1 => ?_⟩
  subst r1
  cases s with
  | true =>
    rw [if_pos rfl]
    rw [if_pos rfl] at h1
    exact ⟨G1, μ1, ρ, he.step x1 R1, h1⟩
  | false =>
    rw [if_neg Bool.false_ne_true]
    rw [if_neg Bool.false_ne_true] at h1
    exact h1 false G1 H1 .refl R1 rfl
theorem TDT.or {K : PySem.W.Frag} : ∀ σ H Q, TDT K P W (fOr ft fu) σ H Q → tOr (TDT K P W ft) (TDT K P W fu) σ H Q := by
  rintro σ H Q ⟨G, μ, ρ, he, h⟩
  refine ⟨G, μ, ρ, he, Post.bind h fun s μ1 x G1 H1 x1 R1 r1 h1 => ?_⟩
  subst r1
  cases s with
  | true =>
    rw [if_pos rfl]
    rw [if_pos rfl] at h1
    exact h1 true G1 H1 .refl R1 rfl
  | false =>
    rw [if_neg Bool.false_ne_true]
    rw [if_neg Bool.false_ne_true] at h1
    exact ⟨G1, μ1, ρ, he.step x1 R1, h1⟩
theorem dw_and1 (ha : DT X P W a ft) : DW X P W (.BoolOp .And [a] pos) ft := pw_and1 ha
theorem dw_or1 (ha : DT X P W a ft) : DW X P W (.BoolOp .Or [a] pos) ft := pw_or1 ha
theorem dw_and (ha : DT X P W a ft) (hb : DW X P W (.BoolOp .And (b :: es) pos) fu) : DW X P W (.BoolOp .And (a :: b :: es) pos) (fAnd ft fu) := (pw_and ha hb).to TDT.and
theorem dw_or (ha : DT X P W a ft) (hb : DW X P W (.BoolOp .Or (b :: es) pos) fu) : DW X P W (.BoolOp .Or (a :: b :: es) pos) (fOr ft fu) := (pw_or ha hb).to TDT.or
theorem dt_w (h : DW X P W e ft) : DT X P W e ft := h.pt
theorem dt_not (h : DT X P W a ft) : DT X P W (.UnaryOp .Not a pos) (fNot ft) := (pt_not h).to fun σ H Q q => by
  obtain ⟨G, μ, ρ, he, h⟩ := q
  refine ⟨G, μ, ρ, he, Post.bind h fun s μ1 x G1 H1 x1 R1 r1 h1 => ?_⟩
  subst r1
  exact h1 _ G1 H1 .refl R1 rfl
/-- .. as values: bools -/
theorem de_one {op} (h : DE X P W a fa) : DE X P W (.BoolOp op [a] pos) fa := pe_one h
def fAndV (f g : FE) : FE := fun ρ μ => (f ρ μ).bind fun s μ1 => match s with
  | .v (.bl true) => g ρ μ1
  | .v (.bl false) => .ok (.v (.bl false)) μ1
  | _ => .stuck
def fOrV (f g : FE) : FE := fun ρ μ => (f ρ μ).bind fun s μ1 => match s with
  | .v (.bl false) => g ρ μ1
  | .v (.bl true) => .ok (.v (.bl true)) μ1
  | _ => .stuck
def gNot (s : Sl) (μ : Store) : Out Sl := match s with
  | .v (.bl b) => .ok (.v (.bl (!b))) μ
  | _ => .stuck
theorem de_and (ha : DE X P W a fa) (hb : DE X P W (.BoolOp .And (b :: es) pos) fb) : DE X P W (.BoolOp .And (a :: b :: es) pos) (fAndV fa fb) := (pe_and ha hb).to fun σ H Q q => by
  obtain ⟨G, μ, ρ, he, h⟩ := q
  refine ⟨G, μ, ρ, he, Post.bind h fun s μ1 x G1 H1 x1 R1 r1 h1 => ?_⟩
  match s with
  | .v (.bl true) => cases r1; exact ⟨true, rfl, by rw [if_pos rfl]; exact ⟨G1, μ1, ρ, he.step x1 R1, h1⟩⟩
  | .v (.bl false) => cases r1; exact ⟨false, rfl, by rw [if_neg Bool.false_ne_true]; exact Post.val R1 h1 (.bl false)⟩
theorem de_or (ha : DE X P W a fa) (hb : DE X P W (.BoolOp .Or (b :: es) pos) fb) : DE X P W (.BoolOp .Or (a :: b :: es) pos) (fOrV fa fb) := (pe_or ha hb).to fun σ H Q q => by
  obtain ⟨G, μ, ρ, he, h⟩ := q
  refine ⟨G, μ, ρ, he, Post.bind h fun s μ1 x G1 H1 x1 R1 r1 h1 => ?_⟩
  match s with
  | .v (.bl true) => cases r1; exact ⟨true, rfl, by rw [if_pos rfl]; exact Post.val R1 h1 (.bl true)⟩
  | .v (.bl false) => cases r1; exact ⟨false, rfl, by rw [if_neg Bool.false_ne_true]; exact ⟨G1, μ1, ρ, he.step x1 R1, h1⟩⟩
theorem de_not (ha : DE X P W a fa) : DE X P W (.UnaryOp .Not a pos) (fUn fa gNot) := (pe_not ha).to fun σ H Q q => by
  obtain ⟨G, μ, ρ, he, h⟩ := q
  refine ⟨G, μ, ρ, he, Post.bind h fun s μ1 x G1 H1 x1 R1 r1 h1 => ?_⟩
  match s with
  | .v (.bl k) => cases r1; exact ⟨k, rfl, Post.val R1 h1 (.bl _)⟩
theorem de_if (hc : DT X P W c ft) (ha : DE X P W a fa) (hb : DE X P W b fb) : DE X P W (.IfExp c a b pos) (fIf ft fa fb) := (pe_ifExp hc ha hb).to fun σ H Q q => by
  obtain ⟨G, μ, ρ, he, h⟩ := q
  refine ⟨G, μ, ρ, he, Post.bind h fun s μ1 x G1 H1 x1 R1 r1 h1 => ?_⟩
  subst r1
  cases s with
  | true =>
    rw [if_pos rfl]
    rw [if_pos rfl] at h1
    exact ⟨G1, μ1, ρ, he.step x1 R1, h1⟩
  | false =>
    rw [if_neg Bool.false_ne_true]
    rw [if_neg Bool.false_ne_true] at h1
    exact ⟨G1, μ1, ρ, he.step x1 R1, h1⟩

/-! ### lists of arguments, displays -/
theorem da_nil : DA X P W [] fNil := ⟨pa_nil.to fun σ H Q q => by
  obtain ⟨G, μ, ρ, he, h⟩ := q
  exact h [] G H .refl he.rel .nil, fun _ _ _ _ e => by cases e; rfl⟩
theorem da_cons (ha : DE X P W e fa) (hr : DA X P W es fg) (hs : starEach (e :: es) X.env = (false, eval e X.env) :: starEach es X.env := by rfl) : DA X P W (e :: es) (fCons fa fg) := by
  refine ⟨(pa_cons ha hr.pa hs).to fun σ H Q q => ?_, fun ρ μ ss μ' h => ?_⟩
  · obtain ⟨G, μ, ρ, he, h⟩ := q
    refine ⟨G, μ, ρ, he, Post.bind h fun s μ1 x G1 H1 x1 R1 r1 h1 => ⟨G1, μ1, ρ, he.step x1 R1, Post.bind h1 fun t μ2 y G2 H2 x2 R2 r2 h2 => ?_⟩⟩
    exact h2 _ G2 H2 .refl R2 (.cons (R1.sl x2 r1) r2)
  · obtain ⟨s, μ1, _, h1⟩ := Out.bind_ok h
    obtain ⟨t, μ2, h2, h3⟩ := Out.bind_ok h1
    cases h3
    rw [List.length_cons, List.length_cons, hr.ln _ _ _ _ h2]
theorem allV_rep {K : PySem.W.Frag} {G : Gh} {H : Hp} : ∀ {ss : List Sl} {vs : List V} {ds : List D}, SlReps K G H ss vs → allV ss = some ds → RepL K G.F H ds vs
  | [], _, _, .nil, e => by cases e; exact .nil
  | .v d :: ss, _, _, .cons h t, e => by
    have e' : (allV ss).map (d :: ·) = some _ := e
    cases q : allV ss with
    | none => rw [q] at e'; cases e'
    | some ds => rw [q] at e'; cases e'; exact .cons h (allV_rep t q)
  | .c _ :: _, _, _, _, e => by cases e
  | .x _ :: _, _, _, _, e => by cases e
theorem sizeLine_lim : sizeLine = lim := by rw [sizeLine_eq]; rfl
def fLst (b : Bool) (f : FA) : FE := fun ρ μ => (f ρ μ).bind fun ss μ1 => match allV ss with
  | some ds => mk b (.lst ds) μ1
  | none => .stuck
theorem de_lst (b : Bool) (h : DA X P W es fg) (hl : es.length ≤ lim := by decide) : DE X P W (.List es pos) (fLst b fg) := (pe_lst h.pa).to fun σ H Q q => by
  have hln := h.ln
  obtain ⟨G, μ, ρ, he, h⟩ := q
  refine ⟨G, μ, ρ, he, Post.bindE h fun ss μ1 xs G1 H1 x1 R1 r1 h1 e0 => ?_⟩
  have e1 := hln _ _ _ _ e0
  cases q : allV ss with
  | none => rw [q] at h1; exact h1.elim
  | some ds =>
    rw [q] at h1
    have r := allV_rep r1 q
    exact ⟨by rw [← r1.length, e1, sizeLine_lim]; exact hl, fun p hp => Post.mkL R1 h1 hp r⟩
def fTup (f : FA) : FE := fun ρ μ => (f ρ μ).bind fun ss μ1 => match allV ss with
  | some ds => .ok (.v (.tup ds)) μ1
  | none => .stuck
theorem de_tup {x1} (h : DA X P W es fg) (hl : es.length ≤ lim := by decide) : DE X P W (.Tuple es x1 pos) (fTup fg) := (pe_tupS h.pa).to fun σ H Q q => by
  have hln := h.ln
  obtain ⟨G, μ, ρ, he, h⟩ := q
  refine ⟨G, μ, ρ, he, Post.bindE h fun ss μ1 xs G1 H1 x1 R1 r1 h1 e0 => ?_⟩
  have e1 := hln _ _ _ _ e0
  cases q : allV ss with
  | none => rw [q] at h1; exact h1.elim
  | some ds =>
    rw [q] at h1
    have r := allV_rep r1 q
    exact ⟨by rw [← r1.length, e1, sizeLine_lim]; exact hl, fun p o hp so => Post.mkT R1 h1 hp so r⟩
end
end DL

namespace DL
open PySem PySem.Spec PyProof.Rows L2

/-! ### data as the library's data -/
mutual
def D.py : D → PyData
  | .non => .none
  | .bl b => .bool b
  | .int i => .int i
  | .str x => .str x
  | .lst ds => .list (D.pyL ds)
  | .fz ds => .list (D.pyL ds)
  | .tup ds => .tuple (D.pyL ds)
  | .tp ds => .tuple (D.pyL ds)
  | .ty _ => .dict []
  | .glo _ => .dict []
  | .dK _ _ => .dict []
  | .dT _ _ => .dict []
  | .ins _ _ _ => .dict []
def D.pyL : List D → List PyData
  | [] => []
  | d :: ds => D.py d :: D.pyL ds
end
section
variable {K : PySem.W.Frag} {F : Addr → Prop} {H : Hp}
mutual
theorem Rep.dp : ∀ {d : D} {v : V}, Rep K F H d v → d.py.canLay0 = true → Dp K H v d.py
  | _, _, .non, _ => by simp only [D.py]; exact .non
  | _, _, .bl b, _ => by simp only [D.py]; exact .bl b
  | _, _, .int i, _ => by simp only [D.py]; exact .int i
  | _, _, .str x, _ => by simp only [D.py]; exact .str x
  | _, _, .ty _, h => by simp [D.py, PyData.canLay0] at h
  | _, _, .glo _, h => by simp [D.py, PyData.canLay0] at h
  | _, _, .lst f h r, c => by
    simp only [D.py] at c ⊢
    exact .lst (.of h) (RepL.dp r (by simpa only [PyData.canLay0] using c))
  | _, _, .fz h r, c => by
    simp only [D.py] at c ⊢
    exact .lst h.sq (RepL.dp r (by simpa only [PyData.canLay0] using c))
  | _, _, .tup h r, c => by
    simp only [D.py] at c ⊢
    exact .tup h.sq (RepL.dp r (by simpa only [PyData.canLay0] using c))
  | _, _, .tp h r, c => by
    simp only [D.py] at c ⊢
    exact .tup (.inl (.inl h)) (RepL.dp r (by simpa only [PyData.canLay0] using c))
  | _, _, .dK _ _ _, h => by simp [D.py, PyData.canLay0] at h
  | _, _, .dT _ _ _ _, h => by simp [D.py, PyData.canLay0] at h
  | _, _, .ins _ _ _, h => by simp [D.py, PyData.canLay0] at h
theorem RepL.dp : ∀ {ds : List D} {vs : List V}, RepL K F H ds vs → PyData.canLayAll0 (D.pyL ds) = true → DpAll K H vs (D.pyL ds)
  | _, _, .nil, _ => by simp only [D.pyL]; exact .nil
  | _, _, .cons h t, c => by
    simp only [D.pyL, PyData.canLayAll0, Bool.and_eq_true] at c ⊢
    exact .cons (h.dp c.1) (RepL.dp t c.2)
end
theorem Now.dp {d : D} {v : V} (h : Now K F H d v) (c : d.py.canLay0 = true) : Dp K H v d.py := by
  cases h with
  | rep h => exact h.dp c
  | at_ h => cases h with
    | lst h r =>
      simp only [D.py] at c ⊢
      exact .lst (.of h) (RepL.dp r (by simpa only [PyData.canLay0] using c))
    | dK _ _ => simp [D.py, PyData.canLay0] at c
    | dT _ _ _ => simp [D.py, PyData.canLay0] at c
    | ins _ _ => simp [D.py, PyData.canLay0] at c
end

/-! ### operators, by contents -/
/-- a rule by the contents of its places -/
def g2 (f : D → D → Store → Out Sl) (s t : Sl) (μ : Store) : Out Sl := match s.get μ, t.get μ with
  | some a, some b => f a b μ
  | _, _ => .stuck
def g1 (f : D → Store → Out Sl) (s : Sl) (μ : Store) : Out Sl := match s.get μ with
  | some a => f a μ
  | none => .stuck
def okV (d : D) (μ : Store) : Out Sl := .ok (.v d) μ
theorem opd {K : PySem.W.Frag} {r : R2} {f : D → D → Store → Out Sl}
    (h : ∀ (G : Gh) (μ : Store) (H : Hp) (σ : L2.St) (W : WX) (a b : D) (x y : V) (Q : VK), Rel K G μ H → Now K G.F H a x → Now K G.F H b y → Post (SlRep K) K W σ G H (f a b μ) Q → r x y H Q) : OpD K r (g2 f) := by
  intro G μ H σ W s t x y Q R rs rt p
  unfold g2 at p
  cases e1 : s.get μ with
  | none => rw [e1] at p; exact p.elim
  | some a =>
    cases e2 : t.get μ with
    | none => rw [e1, e2] at p; exact p.elim
    | some b =>
      rw [e1, e2] at p
      exact h G μ H σ W a b x y Q R (R.now rs e1) (R.now rt e2) p
theorem OpD.or {K : PySem.W.Frag} {r r' : R2} {g : Sl → Sl → Store → Out Sl} (h : OpD K r g) : OpD K (fun x y H Q => r x y H Q ∨ r' x y H Q) g := fun G μ H σ W s t x y Q R rs rt p => .inl (h G μ H σ W s t x y Q R rs rt p)

/-- numbers, as ints -/
def addF (nb : Bool) : D → D → Store → Out Sl
  | .int i, .int j, μ => okV (.int (i + j)) μ
  | .int i, .bl k, μ => okV (.int (i + b2i k)) μ
  | .lst a, .lst b, μ => if a.length + b.length ≤ lim then mk nb (.lst (a ++ b)) μ else .stuck
  | .tup a, .tup b, μ => if a.length + b.length ≤ lim then okV (.tup (a ++ b)) μ else .stuck
  | .str a, .str b, μ => if a.length + b.length ≤ lim then okV (.str (a ++ b)) μ else .stuck
  | _, _, _ => .stuck
section
variable {K : PySem.W.Frag}
abbrev rAddAll (K : PySem.W.Frag) : R2 := fun x y H Q => rI0 (fun i j => .int (i + j)) x y H Q ∨ (fun x y H Q => ∃ i k, x = .int i ∧ y = .bl k ∧ Q (.int (i + b2i k)) H) x y H Q ∨ rCat x y H Q ∨ rCatS K x y H Q ∨
  (fun x y H Q => ∃ i j, x = .str i ∧ y = .str j ∧ i.length + j.length ≤ sizeLine ∧ Q (.str (i ++ j)) H) x y H Q
theorem opr_add {X : Cx} : OpR X (binaryOp .Add) (rAddAll X.K) := op_add.or (op_add_ib.or (op_cat.or (op_catS.or op_add_str)))
theorem opd_add (nb : Bool) : OpD K (rAddAll K) (g2 (addF nb)) := by
  refine opd fun G μ H σ W a b x y Q R ra rb p => ?_
  unfold addF at p
  split at p
  · rw [ra.int, rb.int]
    exact .inl ⟨_, _, rfl, rfl, Post.val R p (.int _)⟩
  · rw [ra.int, rb.bl]
    exact .inr (.inl ⟨_, _, rfl, rfl, Post.val R p (.int _)⟩)
  · rename_i a b
    by_cases hl : a.length + b.length ≤ lim
    · rw [if_pos hl] at p
      obtain ⟨l, xs, rfl, h1, r1⟩ := ra.lst
      obtain ⟨m, ys, rfl, h2, r2⟩ := rb.lst
      refine .inr (.inr (.inl ⟨l, m, xs, ys, rfl, rfl, h1, h2, by rw [← r1.length, ← r2.length, sizeLine_lim]; exact hl, fun q hq => Post.mkL R p hq (r1.append r2)⟩))
    · rw [if_neg hl] at p; exact p.elim
  · rename_i a b
    by_cases hl : a.length + b.length ≤ lim
    · rw [if_pos hl] at p
      obtain ⟨l, xs, rfl, h1, r1⟩ := ra.tup
      obtain ⟨m, ys, rfl, h2, r2⟩ := rb.tup
      refine .inr (.inr (.inr (.inl ⟨l, m, xs, ys, rfl, rfl, h1.sq, h2.sq, by rw [← r1.length, ← r2.length, sizeLine_lim]; exact hl, fun e => ?_, fun _ e => ?_, fun _ _ q o hq so => Post.mkT R p hq so (r1.append r2)⟩)))
      · subst e
        cases r1
        exact Post.val R p (.tup h2 r2)
      · subst e
        cases r2
        rw [List.append_nil] at p
        exact Post.val R p (.tup h1 r1)
    · rw [if_neg hl] at p; exact p.elim
  · rename_i a b
    by_cases hl : a.length + b.length ≤ lim
    · rw [if_pos hl] at p
      rw [ra.str, rb.str]
      exact .inr (.inr (.inr (.inr ⟨_, _, rfl, rfl, by rw [sizeLine_lim]; exact hl, Post.val R p (.str _)⟩)))
    · rw [if_neg hl] at p; exact p.elim
  · exact p.elim
def subF : D → D → Store → Out Sl
  | .int i, .int j, μ => okV (.int (i - j)) μ
  | _, _, _ => .stuck
theorem opd_sub : OpD K (rI0 fun i j => .int (i - j)) (g2 subF) := by
  refine opd fun G μ H σ W a b x y Q R ra rb p => ?_
  unfold subF at p
  split at p
  · rw [ra.int, rb.int]
    exact ⟨_, _, rfl, rfl, Post.val R p (.int _)⟩
  · exact p.elim
/-- one factor within 2^64 -/
def mulOk (i j : Int) : Bool := (decide (-(2 ^ 64) < i) && decide (i < 2 ^ 64)) || (decide (-(2 ^ 64) < j) && decide (j < 2 ^ 64))
def mulF (nb : Bool) : D → D → Store → Out Sl
  | .int i, .int j, μ => if mulOk i j = true then okV (.int (i * j)) μ else .stuck
  | .lst a, .int k, μ => if a.length * k.toNat ≤ lim ∧ k.natAbs < 2 ^ 62 then mk nb (.lst (List.replicate k.toNat a).flatten) μ else .stuck
  | _, _, _ => .stuck
abbrev rMulAll : R2 := fun x y H Q => rI CMul (fun i j => .int (i * j)) x y H Q ∨ rRep x y H Q
theorem opr_mul {X : Cx} : OpR X (binaryOp .Mult) rMulAll := op_mul.or op_rep
theorem RepL.rep {K : PySem.W.Frag} {F : Addr → Prop} {H : Hp} {ds : List D} {vs : List V} (r : RepL K F H ds vs) : ∀ n : Nat, RepL K F H (List.replicate n ds).flatten (List.replicate n vs).flatten
  | 0 => .nil
  | n + 1 => by
    rw [List.replicate_succ, List.replicate_succ, List.flatten_cons, List.flatten_cons]
    exact r.append (RepL.rep r n)
theorem opd_mul (nb : Bool) : OpD K rMulAll (g2 (mulF nb)) := by
  refine opd fun G μ H σ W a b x y Q R ra rb p => ?_
  unfold mulF at p
  split at p
  · rename_i i j
    by_cases hl : mulOk i j = true
    · rw [if_pos hl] at p
      rw [ra.int, rb.int]
      refine .inl ⟨_, _, rfl, rfl, ?_, Post.val R p (.int _)⟩
      unfold mulOk at hl
      simp only [Bool.or_eq_true, Bool.and_eq_true, decide_eq_true_eq] at hl
      exact hl
    · rw [if_neg hl] at p; exact p.elim
  · rename_i a k
    by_cases hl : a.length * k.toNat ≤ lim ∧ k.natAbs < 2 ^ 62
    · rw [if_pos hl] at p
      obtain ⟨l, xs, rfl, h1, r1⟩ := ra.lst
      rw [rb.int]
      exact .inr ⟨l, k, xs, rfl, rfl, h1, by omega, by omega, by rw [← r1.length, sizeLine_lim]; exact hl.1, fun q hq => Post.mkL R p hq (r1.rep _)⟩
    · rw [if_neg hl] at p; exact p.elim
  · exact p.elim
def fdivF : D → D → Store → Out Sl
  | .int i, .int j, μ => if j ≠ 0 ∧ j.natAbs < 1073741824 then okV (.int (i.fdiv j)) μ else .stuck
  | _, _, _ => .stuck
theorem opd_fdiv : OpD K (rI CDivN fun i j => .int (i.fdiv j)) (g2 fdivF) := by
  refine opd fun G μ H σ W a b x y Q R ra rb p => ?_
  unfold fdivF at p
  split at p
  · rename_i i j
    by_cases hl : j ≠ 0 ∧ j.natAbs < 1073741824
    · rw [if_pos hl] at p
      rw [ra.int, rb.int]
      exact ⟨_, _, rfl, rfl, hl, Post.val R p (.int _)⟩
    · rw [if_neg hl] at p; exact p.elim
  · exact p.elim
def modF : D → D → Store → Out Sl
  | .int i, .int j, μ => if j ≠ 0 then okV (.int (i.fmod j)) μ else .stuck
  | _, _, _ => .stuck
theorem opd_mod : OpD K (rI (fun _ j => j ≠ 0) fun i j => .int (i.fmod j)) (g2 modF) := by
  refine opd fun G μ H σ W a b x y Q R ra rb p => ?_
  unfold modF at p
  split at p
  · rename_i i j
    by_cases hl : j ≠ 0
    · rw [if_pos hl] at p
      rw [ra.int, rb.int]
      exact ⟨_, _, rfl, rfl, hl, Post.val R p (.int _)⟩
    · rw [if_neg hl] at p; exact p.elim
  · exact p.elim
def powF : D → D → Store → Out Sl
  | .int i, .int j, μ => if 0 ≤ j ∧ j ≤ 1000000 ∧ i.natAbs < 2 ^ 64 then okV (.int (i ^ j.toNat)) μ else .stuck
  | _, _, _ => .stuck
theorem opd_pow : OpD K (rI CPow fun i j => .int (i ^ j.toNat)) (g2 powF) := by
  refine opd fun G μ H σ W a b x y Q R ra rb p => ?_
  unfold powF at p
  split at p
  · rename_i i j
    by_cases hl : 0 ≤ j ∧ j ≤ 1000000 ∧ i.natAbs < 2 ^ 64
    · rw [if_pos hl] at p
      rw [ra.int, rb.int]
      exact ⟨_, _, rfl, rfl, hl, Post.val R p (.int _)⟩
    · rw [if_neg hl] at p; exact p.elim
  · exact p.elim
/-- < <= > >= : ints; < of texts is not here -/
def ordF (f : Int → Int → Bool) : D → D → Store → Out Sl
  | .int i, .int j, μ => okV (.bl (f i j)) μ
  | _, _, _ => .stuck
theorem opd_ord (f : Int → Int → Bool) : OpD K (rI0 fun i j => .bl (f i j)) (g2 (ordF f)) := by
  refine opd fun G μ H σ W a b x y Q R ra rb p => ?_
  unfold ordF at p
  split at p
  · rw [ra.int, rb.int]
    exact ⟨_, _, rfl, rfl, Post.val R p (.bl _)⟩
  · exact p.elim
abbrev ltF := ordF fun i j => decide (i < j)
abbrev leF := ordF fun i j => decide (i ≤ j)
abbrev gtF := ordF fun i j => decide (j < i)
abbrev geF := ordF fun i j => decide (j ≤ i)
/-- == and != of data -/
def eqF : D → D → Store → Out Sl := fun a b μ => if SeqAt.shaped a.py = true ∧ SeqAt.shaped b.py = true then okV (.bl (PyData.eqv a.py b.py)) μ else .stuck
def neF : D → D → Store → Out Sl := fun a b μ => if SeqAt.shaped a.py = true ∧ SeqAt.shaped b.py = true then okV (.bl (!PyData.eqv a.py b.py)) μ else .stuck
theorem opd_eq : OpD K (rEqD K) (g2 eqF) := by
  refine opd fun G μ H σ W a b x y Q R ra rb p => ?_
  unfold eqF at p
  by_cases hl : SeqAt.shaped a.py = true ∧ SeqAt.shaped b.py = true
  · rw [if_pos hl] at p
    exact ⟨_, _, ra.dp (SeqAt.canLay_of_shaped hl.1), rb.dp (SeqAt.canLay_of_shaped hl.2), hl.1, hl.2, Post.val R p (.bl _)⟩
  · rw [if_neg hl] at p; exact p.elim
theorem opd_ne : OpD K (rNeD K) (g2 neF) := by
  refine opd fun G μ H σ W a b x y Q R ra rb p => ?_
  unfold neF at p
  by_cases hl : SeqAt.shaped a.py = true ∧ SeqAt.shaped b.py = true
  · rw [if_pos hl] at p
    exact ⟨_, _, ra.dp (SeqAt.canLay_of_shaped hl.1), rb.dp (SeqAt.canLay_of_shaped hl.2), hl.1, hl.2, Post.val R p (.bl _)⟩
  · rw [if_neg hl] at p; exact p.elim
end
end DL

namespace DL
open PySem PySem.Spec PyProof.Rows L2

/-! ### unary, is, in, places -/
def UnD (K : PySem.W.Frag) (r : V → Hp → VK → Prop) (g : Sl → Store → Out Sl) : Prop := ∀ (G : Gh) (μ : Store) (H : Hp) (σ : L2.St) (W : WX) (s : Sl) (x : V) (Q : VK), Rel K G μ H → SlRep K G H s x → Post (SlRep K) K W σ G H (g s μ) Q → r x H Q
theorem und {K : PySem.W.Frag} {r : V → Hp → VK → Prop} {f : D → Store → Out Sl}
    (h : ∀ (G : Gh) (μ : Store) (H : Hp) (σ : L2.St) (W : WX) (a : D) (x : V) (Q : VK), Rel K G μ H → Now K G.F H a x → Post (SlRep K) K W σ G H (f a μ) Q → r x H Q) : UnD K r (g1 f) := by
  intro G μ H σ W s x Q R rs p
  unfold g1 at p
  cases e1 : s.get μ with
  | none => rw [e1] at p; exact p.elim
  | some a =>
    rw [e1] at p
    exact h G μ H σ W a x Q R (R.now rs e1) p
def negF : D → Store → Out Sl
  | .int i, μ => okV (.int (-i)) μ
  | _, _ => .stuck
theorem und_neg {K : PySem.W.Frag} : UnD K (rU fun i => .int (-i)) (g1 negF) := by
  refine und fun G μ H σ W a x Q R ra p => ?_
  unfold negF at p
  split at p
  · rw [ra.int]
    exact ⟨_, rfl, Post.val R p (.int _)⟩
  · exact p.elim
section
variable {X : Cx} {P : PX} {W : WX} {a b c e : Expr} {es : List Expr} {fa fb fc : FE} {ft fu : FT} {fg : FA} {pos p : Pos}
theorem TD.un {K : PySem.W.Frag} {r : V → Hp → VK → Prop} {g : Sl → Store → Out Sl} (hg : UnD K r g) : ∀ σ H Q, TD K P W (fUn fa g) σ H Q → TD K P W fa σ H (fun x H1 => r x H1 Q) := by
  rintro σ H Q ⟨G, μ, ρ, he, h⟩
  exact ⟨G, μ, ρ, he, Post.bind h fun s μ1 x G1 H1 x1 R1 r1 h1 => hg G1 μ1 H1 σ W s x Q R1 r1 h1⟩
theorem de_un {op : UnaryOp} {r : V → Hp → VK → Prop} {g : Sl → Store → Out Sl} (ho : UnR X (unaryOp op) r) (hg : UnD X.K r g) (ha : DE X P W a fa) : DE X P W (.UnaryOp op a pos) (fUn fa g) := (pe_un ho ha).to (TD.un hg)

/-! ### is -/
def isNonF (neg : Bool) : Sl → Store → Out Sl
  | .v .non, μ => okV (.bl (!neg)) μ
  | .v _, μ => okV (.bl neg) μ
  | .c n, μ => match (μ[n]?).join with
    | some _ => okV (.bl neg) μ
    | none => .stuck
  | _, _ => .stuck
theorem rep_non {K : PySem.W.Frag} {F : Addr → Prop} {H : Hp} {d : D} {v : V} (h : Rep K F H d v) : decide (v = .non) = (match d with | .non => true | _ => false) := by
  cases h <;> rfl
theorem und_isN {K : PySem.W.Frag} : UnD K (fun x H1 Q => Q (.bl (decide (x = .non))) H1) (isNonF false) := by
  intro G μ H σ W s x Q R rs p
  match s with
  | .v d =>
    show Q (.bl (decide (x = .non))) H
    rw [rep_non rs]
    cases d <;> exact Post.val R p (.bl _)
  | .c n =>
    unfold isNonF at p
    cases e : (μ[n]?).join with
    | none => simp only [e] at p; exact p.elim
    | some d =>
      simp only [e] at p
      have q := R.now (s := .c n) rs e
      have hx : ∃ a, x = .ref a := by
        have e' : μ[n]? = some (some d) := by
          cases z : μ[n]? with
          | none => rw [z] at e; cases e
          | some o => rw [z] at e; exact congrArg some e
        obtain ⟨a, ea, _, _⟩ := R.cell n d e'
        exact ⟨a, rs.2 a ea⟩
      obtain ⟨a, rfl⟩ := hx
      exact Post.val R p (.bl _)
theorem und_notN {K : PySem.W.Frag} : UnD K (fun x H1 Q => Q (.bl (!decide (x = .non))) H1) (isNonF true) := by
  intro G μ H σ W s x Q R rs p
  match s with
  | .v d =>
    show Q (.bl (!decide (x = .non))) H
    rw [rep_non rs]
    cases d <;> exact Post.val R p (.bl _)
  | .c n =>
    unfold isNonF at p
    cases e : (μ[n]?).join with
    | none => simp only [e] at p; exact p.elim
    | some d =>
      simp only [e] at p
      have e' : μ[n]? = some (some d) := by
        cases z : μ[n]? with
        | none => rw [z] at e; cases e
        | some o => rw [z] at e; exact congrArg some e
      obtain ⟨a, ea, _, _⟩ := R.cell n d e'
      cases rs.2 a ea
      exact Post.val R p (.bl _)
theorem de_isN {j pos'} (ha : DE X P W a fa) : DE X P W (.Compare a [.Is] [.Constant .none j pos'] pos) (fUn fa (isNonF false)) := (pe_cmp (pc_isN ha) rfl).to (TD.un und_isN)
theorem de_notN {j pos'} (ha : DE X P W a fa) : DE X P W (.Compare a [.IsNot] [.Constant .none j pos'] pos) (fUn fa (isNonF true)) := (pe_cmp (pc_notN ha) rfl).to (TD.un und_notN)
/-- is, of None and truth values -/
def isCB : V → Bool
  | .non => true
  | .bl _ => true
  | _ => false
theorem op_isC (neg : Bool) : OpR X (compareOp (if neg then .IsNot else .Is)) (fun x y H Q => isCB x = true ∧ isCB y = true ∧ Q (.bl (if neg then !decide (x = y) else decide (x = y))) H) := by
  intro pins s σ H x y v u Q I rx ry h
  obtain ⟨hx, hy, q⟩ := h
  have key : plainIs v u = true ∧ (x = y ↔ v = u) := by
    cases x <;> first | exact absurd hx Bool.false_ne_true | (cases y <;> first | exact absurd hy Bool.false_ne_true | (cases rx; cases ry; refine ⟨rfl, ?_⟩; simp))
  obtain ⟨hp, iff⟩ := key
  cases neg with
  | true =>
    by_cases e : x = y
    · have e2 := iff.mp e
      subst e2
      exact wpAny_isNot_self hp ⟨.bl false, H, I, rfl, by simpa [e] using q⟩
    · exact wpAny_isNot_other hp (fun z => e (iff.mpr z)) ⟨.bl true, H, I, rfl, by simpa [e] using q⟩
  | false =>
    by_cases e : x = y
    · have e2 := iff.mp e
      subst e2
      exact wpAny_is_self hp ⟨.bl true, H, I, rfl, by simpa [e] using q⟩
    · exact wpAny_is_other hp (fun z => e (iff.mpr z)) ⟨.bl false, H, I, rfl, by simpa [e] using q⟩
def isF (neg : Bool) : D → D → Store → Out Sl
  | .non, .non, μ => okV (.bl (!neg)) μ
  | .bl a, .bl b, μ => okV (.bl (if neg then !decide (a = b) else decide (a = b))) μ
  | .non, .bl _, μ => okV (.bl neg) μ
  | .bl _, .non, μ => okV (.bl neg) μ
  | _, _, _ => .stuck
theorem opd_is (neg : Bool) {K : PySem.W.Frag} : OpD K (fun x y H Q => isCB x = true ∧ isCB y = true ∧ Q (.bl (if neg then !decide (x = y) else decide (x = y))) H) (g2 (isF neg)) := by
  refine opd fun G μ H σ W a b x y Q R ra rb p => ?_
  unfold isF at p
  split at p
  · rw [ra.non, rb.non]
    refine ⟨rfl, rfl, ?_⟩
    have e : (if neg = true then !decide (V.non = V.non) else decide (V.non = V.non)) = !neg := by cases neg <;> rfl
    rw [e]
    exact Post.val R p (.bl _)
  · rename_i i j
    rw [ra.bl, rb.bl]
    refine ⟨rfl, rfl, ?_⟩
    have e : (if neg = true then !decide (V.bl i = V.bl j) else decide (V.bl i = V.bl j)) = if neg = true then !decide (i = j) else decide (i = j) := by simp
    rw [e]
    exact Post.val R p (.bl _)
  · rw [ra.non, rb.bl]
    refine ⟨rfl, rfl, ?_⟩
    rename_i j
    have e : (if neg = true then !decide (V.non = V.bl j) else decide (V.non = V.bl j)) = neg := by cases neg <;> rfl
    rw [e]
    exact Post.val R p (.bl _)
  · rw [ra.bl, rb.non]
    refine ⟨rfl, rfl, ?_⟩
    rename_i i
    have e : (if neg = true then !decide (V.bl i = V.non) else decide (V.bl i = V.non)) = neg := by cases neg <;> rfl
    rw [e]
    exact Post.val R p (.bl _)
  · exact p.elim

/-! ### in -/
def D.flat : D → Bool
  | .non => true
  | .bl _ => true
  | .int _ => true
  | .str _ => true
  | _ => false
/-- the truth of an item in a row -/
def inD (x : D) (ds : List D) : Bool := ds.any fun z => PyData.eqv z.py x.py
def inF (neg : Bool) : D → D → Store → Out Sl
  | x, .lst ds, μ => if SeqAt.shaped x.py = true ∧ SeqAt.shaped (.list (D.pyL ds)) = true then okV (.bl (if neg then !inD x ds else inD x ds)) μ else .stuck
  | x, .tup ds, μ => if x.flat = true ∧ ds.all D.flat = true then okV (.bl (if neg then !inD x ds else inD x ds)) μ else .stuck
  | _, _, _ => .stuck
theorem pyL_any (p : PyData → Bool) : ∀ ds : List D, (D.pyL ds).any p = ds.any fun z => p z.py
  | [] => rfl
  | d :: ds => by
    rw [D.pyL, List.any_cons, List.any_cons, pyL_any p ds]
theorem flat_eqV {K : PySem.W.Frag} {F : Addr → Prop} {H : Hp} {d e : D} {v u : V} (rd : Rep K F H d v) (re : Rep K F H e u) (fd : d.flat = true) (fe : e.flat = true) : flatV v = true ∧ flatV u = true ∧ eqV v u = PyData.eqv d.py e.py := by
  cases rd <;> first | exact absurd fd Bool.false_ne_true | (cases re <;> first | exact absurd fe Bool.false_ne_true | (refine ⟨rfl, rfl, ?_⟩; simp [eqV, D.py, PyData.eqv]; done))

theorem flat_list {K : PySem.W.Frag} {F : Addr → Prop} {H : Hp} {x : D} {v : V} (rx : Rep K F H x v) (fx : x.flat = true) : ∀ {ds : List D} {vs : List V}, RepL K F H ds vs → ds.all D.flat = true → vs.all flatV = true ∧ inV v vs = inD x ds
  | _, _, .nil, _ => ⟨rfl, rfl⟩
  | _, _, .cons h t, e => by
    rw [List.all_cons, Bool.and_eq_true] at e
    obtain ⟨q1, q2⟩ := flat_list rx fx t e.2
    obtain ⟨z1, z2, z3⟩ := flat_eqV h rx e.1 fx
    refine ⟨by rw [List.all_cons, z1, q1]; rfl, ?_⟩
    unfold inV inD at q2 ⊢
    rw [List.any_cons, List.any_cons, q2, z3]
theorem Now.flat {K : PySem.W.Frag} {F : Addr → Prop} {H : Hp} {d : D} {v : V} (h : Now K F H d v) (f : d.flat = true) : Rep K F H d v := by
  cases h with
  | rep h => exact h
  | at_ h => cases h <;> exact absurd f Bool.false_ne_true
abbrev rInAll (K : PySem.W.Frag) (neg : Bool) : R2 := fun x y H Q => (∃ d ds, Dp K H x d ∧ Dp K H y (.list ds) ∧ SeqAt.shaped d = true ∧ SeqAt.shaped (.list ds) = true ∧ Q (.bl (if neg = true then !ds.any (fun z => PyData.eqv z d) else ds.any fun z => PyData.eqv z d)) H) ∨ rIn K neg x y H Q
theorem opr_in (hu : X.A.units + 65 < cLine) : OpR X (compareOp .In) (rInAll X.K false) := (show OpR X (compareOp .In) (rInD X.K) from op_inD hu).or op_in_seq
theorem opr_notIn (hu : X.A.units + 65 < cLine) : OpR X (compareOp .NotIn) (rInAll X.K true) := (show OpR X (compareOp .NotIn) (rNotInD X.K) from op_notInD hu).or op_notIn_seq
theorem opd_in (neg : Bool) {K : PySem.W.Frag} : OpD K (rInAll K neg) (g2 (inF neg)) := by
  refine opd fun G μ H σ W a b x y Q R ra rb p => ?_
  unfold inF at p
  split at p
  · rename_i ds
    by_cases hl : SeqAt.shaped a.py = true ∧ SeqAt.shaped (.list (D.pyL ds)) = true
    · rw [if_pos hl] at p
      have hb := rb.dp (by simp only [D.py]; exact SeqAt.canLay_of_shaped hl.2)
      simp only [D.py] at hb
      refine .inl ⟨_, _, ra.dp (SeqAt.canLay_of_shaped hl.1), hb, hl.1, hl.2, ?_⟩
      rw [pyL_any]
      exact Post.val R p (.bl _)
    · rw [if_neg hl] at p; exact p.elim
  · rename_i ds
    by_cases hl : a.flat = true ∧ ds.all D.flat = true
    · rw [if_pos hl] at p
      obtain ⟨t, xs, rfl, h1, r1⟩ := rb.tup
      have ha := ra.flat hl.1
      obtain ⟨q1, q2⟩ := flat_list ha hl.1 r1 hl.2
      have fx : flatV x = true := by
        revert ha hl
        cases a <;> intro hl ha <;> first | exact absurd hl.1 Bool.false_ne_true | (cases ha; rfl)
      refine .inr ⟨t, xs, rfl, .inr h1.sq, fx, q1, ?_⟩
      rw [q2]
      exact Post.val R p (.bl _)
    · rw [if_neg hl] at p; exact p.elim
  · exact p.elim
theorem de_in (neg : Bool) (hu : X.A.units + 65 < cLine) (hm : behindInMarks (if neg = true then .NotIn else .In) b = false) (ha : DE X P W a fa) (hb : DE X P W b fb) : DE X P W (.Compare a [if neg = true then .NotIn else .In] [b] pos) (fBin fa fb (g2 (inF neg))) := by
  cases neg with
  | true => exact de_cmp (opr_notIn hu) (opd_in true) hm ha hb
  | false => exact de_cmp (opr_in hu) (opd_in false) hm ha hb

/-! ### items -/
def ixF : D → D → Store → Out Sl
  | .lst ds, .int i, μ => match atI ds i with
    | some d => okV d μ
    | none => .stuck
  | .tup ds, .int i, μ => match atI ds i with
    | some d => okV d μ
    | none => .stuck
  | .fz ds, .int i, μ => match atI ds i with
    | some d => okV d μ
    | none => .stuck
  | .str z, .int i, μ => if z.length ≤ lim then match atI z.cps.toList i with
    | some c => okV (.str ⟨#[c]⟩) μ
    | none => .stuck
    else .stuck
  | _, _, _ => .stuck
theorem atI_rep {K : PySem.W.Frag} {F : Addr → Prop} {H : Hp} {ds : List D} {vs : List V} {i : Int} {d : D} (r : RepL K F H ds vs) (h : atI ds i = some d) : ∃ v, atI vs i = some v ∧ Rep K F H d v := by
  unfold atI at h ⊢
  rw [r.length] at h
  cases e : ixN vs.length i with
  | none => rw [e] at h; cases h
  | some j =>
    rw [e] at h
    obtain ⟨v, h1, h2⟩ := r.get (show ds[j]? = some d from h)
    exact ⟨v, h1, h2⟩
theorem opd_ix {K : PySem.W.Frag} : OpD K (rIx K) (g2 ixF) := by
  refine opd fun G μ H σ W a b x y Q R ra rb p => ?_
  unfold ixF at p
  split at p
  · rename_i ds i
    cases e : atI ds i with
    | none => rw [e] at p; exact p.elim
    | some d =>
      rw [e] at p
      obtain ⟨t, xs, rfl, h1, r1⟩ := ra.sql
      obtain ⟨v, h2, r2⟩ := atI_rep r1 e
      rw [rb.int]
      exact .inl ⟨t, xs, i, v, rfl, rfl, h1, h2, Post.val R p r2⟩
  · rename_i ds i
    cases e : atI ds i with
    | none => rw [e] at p; exact p.elim
    | some d =>
      rw [e] at p
      obtain ⟨t, xs, rfl, h1, r1⟩ := ra.tup
      obtain ⟨v, h2, r2⟩ := atI_rep r1 e
      rw [rb.int]
      exact .inr (.inl ⟨t, xs, i, v, rfl, rfl, h1.sq, h2, Post.val R p r2⟩)
  · rename_i ds i
    cases e : atI ds i with
    | none => rw [e] at p; exact p.elim
    | some d =>
      rw [e] at p
      obtain ⟨t, xs, rfl, h1, r1⟩ := ra.fz
      obtain ⟨v, h2, r2⟩ := atI_rep r1 e
      rw [rb.int]
      exact .inl ⟨t, xs, i, v, rfl, rfl, h1, h2, Post.val R p r2⟩
  · rename_i z i
    by_cases hl : z.length ≤ lim
    · rw [if_pos hl] at p
      cases e : atI z.cps.toList i with
      | none => rw [e] at p; exact p.elim
      | some c =>
        rw [e] at p
        rw [ra.str, rb.int]
        exact .inr (.inr ⟨z, i, c, rfl, rfl, by rw [sizeLine_lim]; exact hl, e, Post.val R p (.str _)⟩)
    · rw [if_neg hl] at p; exact p.elim
  · exact p.elim
theorem de_ix (ha : DE X P W a fa) (hb : DE X P W b fb) (hs : PlainIx b := by exact fun _ _ => rfl) : DE X P W (.Subscript a b pos) (fBin fa fb (g2 ixF)) := (pe_ix ix_seq ha hb hs).to (TD.bin opd_ix)

/-! ### slices -/
abbrev FO := Env → Store → Out (Option Int)
def TDO (K : PySem.W.Frag) (P : PX) (W : WX) (f : FO) : TO := fun σ H Q => ∃ G μ ρ, Here K P G μ ρ σ H ∧ Post (fun _ _ a b => a = b) K W σ G H (f ρ μ) Q
abbrev DO (X : Cx) (P : PX) (W : WX) (e : Option Expr) (f : FO) : Prop := PO X e (TDO X.K P W f)
theorem _root_.L2.PO.to {X : Cx} {e : Option Expr} {t t' : TO} (h : PO X e t) (w : ∀ σ H Q, t' σ H Q → t σ H Q) : PO X e t' := ⟨fun pins s σ H Q I q => h.run pins s σ H Q I (w σ H Q q)⟩
def fNo : FO := fun _ μ => .ok none μ
def fPart (f : FE) : FO := fun ρ μ => (f ρ μ).bind fun s μ1 => match s with
  | .v (.int i) => .ok (some i) μ1
  | _ => .stuck
theorem do_none : DO X P W none fNo := po_none.to fun σ H Q h => by
  obtain ⟨G, μ, ρ, he, h⟩ := h
  exact h none G H .refl he.rel rfl
theorem do_some (ha : DE X P W a fa) : DO X P W (some a) (fPart fa) := (po_some ha).to fun σ H Q h => by
  obtain ⟨G, μ, ρ, he, h⟩ := h
  refine ⟨G, μ, ρ, he, Post.bind h fun s μ1 x G1 H1 x1 R1 r1 h1 => ?_⟩
  match s with
  | .v (.int i) => cases r1; exact ⟨i, rfl, h1 _ G1 H1 .refl R1 rfl⟩
def cutD (xs : List D) (lo hi : Option Int) : List D := (xs.drop (HT.sIx xs.length 0 lo)).take (HT.sIx xs.length xs.length hi - HT.sIx xs.length 0 lo)
theorem cut_rep {K : PySem.W.Frag} {F : Addr → Prop} {H : Hp} {ds : List D} {vs : List V} (r : RepL K F H ds vs) (lo hi : Option Int) : RepL K F H (cutD ds lo hi) (cutV vs lo hi) := by
  unfold cutD cutV
  rw [r.length]
  exact (r.drop _).take _
def slF (nb : Bool) : D → Option Int → Option Int → Store → Out Sl
  | .lst ds, lo, hi, μ => mk nb (.lst (cutD ds lo hi)) μ
  | .tup ds, lo, hi, μ => okV (.tup (cutD ds lo hi)) μ
  | _, _, _, _ => .stuck
def fSl (nb : Bool) (fa : FE) (fl fh : FO) : FE := fun ρ μ => (fa ρ μ).bind fun s μ1 => (fl ρ μ1).bind fun lo μ2 => (fh ρ μ2).bind fun hi μ3 => match s.get μ3 with
  | some d => slF nb d lo hi μ3
  | none => .stuck
theorem de_sl (nb : Bool) {lo hi : Option Expr} {fl fh : FO} {p2 : Pos} (ha : DE X P W e fa) (hl : DO X P W lo fl) (hh : DO X P W hi fh) : DE X P W (.Subscript e (.Slice lo hi none p2) pos) (fSl nb fa fl fh) := (pe_slice (sl_list.or sl_tupS) ha hl hh).to fun σ H Q h => by
  obtain ⟨G, μ, ρ, he, h⟩ := h
  refine ⟨G, μ, ρ, he, Post.bind h fun s μ1 x G1 H1 x1 R1 r1 h1 => ⟨G1, μ1, ρ, he.step x1 R1, Post.bind h1 fun lo μ2 y G2 H2 x2 R2 r2 h2 => ⟨G2, μ2, ρ, (he.step x1 R1).step x2 R2, Post.bind h2 fun hi μ3 z G3 H3 x3 R3 r3 h3 => ?_⟩⟩⟩
  subst r2 r3
  cases e : s.get μ3 with
  | none => rw [e] at h3; exact h3.elim
  | some d =>
    rw [e] at h3
    have ra := R3.now (R2.sl x3 (R1.sl x2 r1)) e
    have h3' : Post (SlRep X.K) X.K W σ G3 H3 (slF nb d lo hi μ3) Q := h3
    unfold slF at h3'
    split at h3'
    · obtain ⟨t, xs, rfl, h1, r1⟩ := ra.sql
      exact .inl ⟨t, xs, rfl, h1, fun p hp => Post.mkL R3 h3' hp (cut_rep r1 lo hi)⟩
    · obtain ⟨t, xs, rfl, h1, r1⟩ := ra.tup
      refine .inr ⟨t, xs, rfl, h1.sq, fun hw => ?_, fun _ p o hp so => Post.mkT R3 h3' hp so (cut_rep r1 lo hi)⟩
      refine Post.val R3 h3' (.tup h1 ?_)
      unfold cutD
      rw [r1.length, hw.1, hw.2, List.drop_zero, Nat.sub_zero, ← r1.length, List.take_length]
      exact r1
    · exact h3'.elim
/-- xs[::-1] -/
def revF (nb : Bool) : D → Store → Out Sl
  | .lst ds, μ => mk nb (.lst ds.reverse) μ
  | _, _ => .stuck
theorem de_rev (nb : Bool) {k : Nat} {p1 p2 p3 : Pos} (ha : DE X P W e fa) : DE X P W (.Subscript e (.Slice none none (some (.UnaryOp .USub (.Constant (.int 1) k p1) p2)) p3) pos) (fUn fa (g1 (revF nb))) := (pe_revL ha).to fun σ H Q h => by
  refine TD.un (r := fun x H1 Q => ∃ a xs, x = .ref a ∧ SqL X.K H1 a xs ∧ ∀ p, H1 p = none → Q (.ref p) (upd H1 p (.lst xs.reverse))) (und fun G μ H σ W a x Q R ra p => ?_) σ H Q h
  unfold revF at p
  split at p
  · obtain ⟨t, xs, rfl, h1, r1⟩ := ra.sql
    exact ⟨t, xs, rfl, h1, fun q hq => Post.mkL R p hq r1.reverse⟩
  · exact p.elim
end
end DL

namespace DL
open PySem PySem.Spec PyProof.Rows L2

/-! ### built-ins that are called -/
def CallD (K : PySem.W.Frag) (r : List V → Hp → VK → Prop) (g : List Sl → Store → Out Sl) : Prop :=
  ∀ (G : Gh) (μ : Store) (H : Hp) (σ : L2.St) (W : WX) (ss : List Sl) (vs : List V) (Q : VK), Rel K G μ H → SlReps K G H ss vs → Post (SlRep K) K W σ G H (g ss μ) Q → r vs H Q
def gc1 (f : D → Store → Out Sl) : List Sl → Store → Out Sl
  | [s], μ => g1 f s μ
  | _, _ => .stuck
def gc2 (f : D → D → Store → Out Sl) : List Sl → Store → Out Sl
  | [s, t], μ => g2 f s t μ
  | _, _ => .stuck
theorem cld1 {K : PySem.W.Frag} {r : List V → Hp → VK → Prop} {f : D → Store → Out Sl}
    (h : ∀ (G : Gh) (μ : Store) (H : Hp) (σ : L2.St) (W : WX) (a : D) (x : V) (Q : VK), Rel K G μ H → Now K G.F H a x → Post (SlRep K) K W σ G H (f a μ) Q → r [x] H Q) : CallD K r (gc1 f) := by
  intro G μ H σ W ss vs Q R rs p
  match ss, vs, rs, p with
  | [s], [x], .cons r1 .nil, p => exact und (r := fun x H Q => r [x] H Q) h G μ H σ W s x Q R r1 p
theorem cld2 {K : PySem.W.Frag} {r : List V → Hp → VK → Prop} {f : D → D → Store → Out Sl}
    (h : ∀ (G : Gh) (μ : Store) (H : Hp) (σ : L2.St) (W : WX) (a b : D) (x y : V) (Q : VK), Rel K G μ H → Now K G.F H a x → Now K G.F H b y → Post (SlRep K) K W σ G H (f a b μ) Q → r [x, y] H Q) : CallD K r (gc2 f) := by
  intro G μ H σ W ss vs Q R rs p
  match ss, vs, rs, p with
  | [s, t], [x, y], .cons r1 (.cons r2 .nil), p => exact opd (r := fun x y H Q => r [x, y] H Q) h G μ H σ W s t x y Q R r1 r2 p
section
variable {X : Cx} {P : PX} {W : WX} {a b c e : Expr} {es : List Expr} {fa fb fc : FE} {ft fu : FT} {fg : FA} {pos p : Pos}
theorem TD.cb {K : PySem.W.Frag} {r : List V → Hp → VK → Prop} {g : List Sl → Store → Out Sl} (hg : CallD K r g) : ∀ σ H Q, TD K P W (fCall g fg) σ H Q → TDA K P W fg σ H (fun xs H1 => r xs H1 Q) := by
  rintro σ H Q ⟨G, μ, ρ, he, h⟩
  exact ⟨G, μ, ρ, he, Post.bind h fun s μ1 x G1 H1 x1 R1 r1 h1 => hg G1 μ1 H1 σ W s x Q R1 r1 h1⟩
theorem de_cb {id : String} {x : Str} {r : List V → Hp → VK → Prop} {g : List Sl → Store → Out Sl} (hc : CallR X (.builtin id) r) (hd : CallD X.K r g) (hg : Gl X x) (hm : X.mg x = none) (hv : bootBuiltins x = some (.builtin id)) (ha : DA X P W (e :: es) fg)
    (hn : x ≠ "__name__" := by decide) (hdb : (x == ("__debug__" : Str)) = false := by decide)
    (he : starEach (e :: es) X.env = (false, eval e X.env) :: starEach es X.env := by rfl) (hpl : (backTo pos (starEach es X.env)).any (·.1) = false := by rfl) : DE X P W (.Call (.Name x p) (e :: es) [] pos) (fCall g fg) :=
  (pe_callB hc hg hm hv ha.pa hn hdb he hpl).to (TD.cb hd)
theorem de_ct {T : String} {x : Str} {r : List V → Hp → VK → Prop} {g : List Sl → Store → Out Sl} (hc : CallR X (.type T) r) (hd : CallD X.K r g) (hg : Gl X x) (hm : X.mg x = none) (hv : bootBuiltins x = some (.type T)) (ha : DA X P W (e :: es) fg)
    (hn : x ≠ "__name__" := by decide) (hdb : (x == ("__debug__" : Str)) = false := by decide)
    (he : starEach (e :: es) X.env = (false, eval e X.env) :: starEach es X.env := by rfl) (hpl : (backTo pos (starEach es X.env)).any (·.1) = false := by rfl) : DE X P W (.Call (.Name x p) (e :: es) [] pos) (fCall g fg) :=
  (pe_callTy hc hg hm hv ha.pa hn hdb he hpl).to (TD.cb hd)
end
section
variable {K : PySem.W.Frag}
def absF : D → Store → Out Sl
  | .int i, μ => okV (.int (if i < 0 then -i else i)) μ
  | _, _ => .stuck
theorem cld_abs : CallD K (fun xs H Q => ∃ i, xs = [.int i] ∧ Q (.int (if i < 0 then -i else i)) H) (gc1 absF) := cld1 fun G μ H σ W a x Q R ra p => by
  unfold absF at p
  split at p
  · rw [ra.int]; exact ⟨_, rfl, Post.val R p (.int _)⟩
  · exact p.elim
def max2F : D → D → Store → Out Sl
  | .int i, .int j, μ => okV (.int (if j > i then j else i)) μ
  | _, _, _ => .stuck
theorem cld_max2 : CallD K (fun xs H Q => ∃ i j, xs = [.int i, .int j] ∧ Q (.int (if j > i then j else i)) H) (gc2 max2F) := cld2 fun G μ H σ W a b x y Q R ra rb p => by
  unfold max2F at p
  split at p
  · rw [ra.int, rb.int]; exact ⟨_, _, rfl, Post.val R p (.int _)⟩
  · exact p.elim
def min2F : D → D → Store → Out Sl
  | .int i, .int j, μ => okV (.int (if j < i then j else i)) μ
  | _, _, _ => .stuck
theorem cld_min2 : CallD K (fun xs H Q => ∃ i j, xs = [.int i, .int j] ∧ Q (.int (if j < i then j else i)) H) (gc2 min2F) := cld2 fun G μ H σ W a b x y Q R ra rb p => by
  unfold min2F at p
  split at p
  · rw [ra.int, rb.int]; exact ⟨_, _, rfl, Post.val R p (.int _)⟩
  · exact p.elim
def int1F : D → Store → Out Sl
  | .int i, μ => okV (.int i) μ
  | .bl k, μ => okV (.int (if k then 1 else 0)) μ
  | _, _ => .stuck
theorem cld_int1 : CallD K (fun xs H Q => (∃ i, xs = [.int i] ∧ Q (.int i) H) ∨ ∃ k, xs = [.bl k] ∧ Q (.int (if k then 1 else 0)) H) (gc1 int1F) := cld1 fun G μ H σ W a x Q R ra p => by
  unfold int1F at p
  split at p
  · rw [ra.int]; exact .inl ⟨_, rfl, Post.val R p (.int _)⟩
  · rw [ra.bl]; exact .inr ⟨_, rfl, Post.val R p (.int _)⟩
  · exact p.elim
def lenF : D → Store → Out Sl
  | .lst ds, μ => okV (.int ds.length) μ
  | .tup ds, μ => okV (.int ds.length) μ
  | .fz ds, μ => okV (.int ds.length) μ
  | .str z, μ => if z.length ≤ lim then okV (.int z.length) μ else .stuck
  | .dK ks _, μ => okV (.int ks.length) μ
  | _, _ => .stuck
abbrev rLenA (K : PySem.W.Frag) : List V → Hp → VK → Prop := fun xs H Q => (∃ x n, xs = [x] ∧ LenV K x H n ∧ Q (.int n) H) ∨ (∃ a kvs, xs = [V.ref a] ∧ H a = some (.dK kvs) ∧ Q (.int kvs.length) H)
theorem clr_len {X : Cx} : CallR X (.builtin "len") (rLenA X.K) := call_len.or call_lenD
theorem Now.dK {F : Addr → Prop} {H : Hp} {ks : List Key} {vs : List D} {v : V} (h : Now K F H (.dK ks vs) v) : ∃ a kvs, v = .ref a ∧ H a = some (.dK kvs) ∧ ks = kvs.map (·.1) ∧ RepL K F H vs (kvs.map (·.2)) := by
  cases h with
  | rep h => cases h with
    | dK f h r => exact ⟨_, _, rfl, h, rfl, r⟩
  | at_ h => cases h with
    | dK h r => exact ⟨_, _, rfl, h, rfl, r⟩
theorem cld_len : CallD K (rLenA K) (gc1 lenF) := cld1 fun G μ H σ W a x Q R ra p => by
  unfold lenF at p
  split at p
  · obtain ⟨t, xs, rfl, h1, r1⟩ := ra.sql
    rw [r1.length] at p
    exact .inl ⟨_, _, rfl, .inl ⟨xs, h1, rfl⟩, Post.val R p (.int _)⟩
  · obtain ⟨t, xs, rfl, h1, r1⟩ := ra.tup
    rw [r1.length] at p
    exact .inl ⟨_, _, rfl, .inr ⟨xs, h1.sq, rfl⟩, Post.val R p (.int _)⟩
  · obtain ⟨t, xs, rfl, h1, r1⟩ := ra.fz
    rw [r1.length] at p
    exact .inl ⟨_, _, rfl, .inl ⟨xs, h1, rfl⟩, Post.val R p (.int _)⟩
  · rename_i z
    by_cases hl : z.length ≤ lim
    · rw [if_pos hl] at p
      rw [ra.str]
      exact .inl ⟨_, _, rfl, ⟨by rw [sizeLine_lim]; exact hl, rfl⟩, Post.val R p (.int _)⟩
    · rw [if_neg hl] at p; exact p.elim
  · obtain ⟨t, kvs, rfl, h1, e, r1⟩ := ra.dK
    subst e
    rw [List.length_map] at p
    exact .inr ⟨_, _, rfl, h1, Post.val R p (.int _)⟩
  · exact p.elim
/-- list(x), tuple(x) of lists, tuples -/
def listF (nb : Bool) : D → Store → Out Sl
  | .lst ds, μ => mk nb (.lst ds) μ
  | .tup ds, μ => mk nb (.lst ds) μ
  | .fz ds, μ => mk nb (.lst ds) μ
  | _, _ => .stuck
theorem cld_list (nb : Bool) : CallD K (fun xs H Q => ∃ p ys, xs = [.ref p] ∧ (SqL K H p ys ∨ SqT K H p ys) ∧ ∀ l, H l = none → Q (.ref l) (upd H l (.lst ys))) (gc1 (listF nb)) := cld1 fun G μ H σ W a x Q R ra p => by
  unfold listF at p
  split at p
  · obtain ⟨t, xs, rfl, h1, r1⟩ := ra.sql
    exact ⟨_, _, rfl, .inl h1, fun q hq => Post.mkL R p hq r1⟩
  · obtain ⟨t, xs, rfl, h1, r1⟩ := ra.tup
    exact ⟨_, _, rfl, .inr h1.sq, fun q hq => Post.mkL R p hq r1⟩
  · obtain ⟨t, xs, rfl, h1, r1⟩ := ra.fz
    exact ⟨_, _, rfl, .inl h1, fun q hq => Post.mkL R p hq r1⟩
  · exact p.elim
def tupleF : D → Store → Out Sl
  | .lst ds, μ => okV (.tup ds) μ
  | .tup ds, μ => okV (.tup ds) μ
  | .fz ds, μ => okV (.tup ds) μ
  | _, _ => .stuck
theorem cld_tuple : CallD K (rTupS K) (gc1 tupleF) := cld1 fun G μ H σ W a x Q R ra p => by
  unfold tupleF at p
  split at p
  · obtain ⟨t, xs, rfl, h1, r1⟩ := ra.sql
    exact ⟨_, _, rfl, .inl ⟨h1, fun q o hq so => Post.mkT R p hq so r1⟩⟩
  · obtain ⟨t, xs, rfl, h1, r1⟩ := ra.tup
    exact ⟨_, _, rfl, .inr ⟨h1.sq, Post.val R p (.tup h1 r1)⟩⟩
  · obtain ⟨t, xs, rfl, h1, r1⟩ := ra.fz
    exact ⟨_, _, rfl, .inl ⟨h1, fun q o hq so => Post.mkT R p hq so r1⟩⟩
  · exact p.elim
/-- the ints of a row -/
def intsOf : List D → Option (List Int)
  | [] => some []
  | .int i :: ds => (intsOf ds).map (i :: ·)
  | _ :: _ => none
theorem intsOf_eq : ∀ {ds : List D} {ns : List Int}, intsOf ds = some ns → ds = ns.map D.int
  | [], _, h => by cases h; rfl
  | .int i :: ds, _, h => by
    have h' : (intsOf ds).map (i :: ·) = some _ := h
    cases q : intsOf ds with
    | none => rw [q] at h'; cases h'
    | some ms => rw [q] at h'; cases h'; rw [intsOf_eq q]; rfl
  | .non :: _, _, h => by cases h
  | .bl _ :: _, _, h => by cases h
  | .str _ :: _, _, h => by cases h
  | .ty _ :: _, _, h => by cases h
  | .glo _ :: _, _, h => by cases h
  | .lst _ :: _, _, h => by cases h
  | .tup _ :: _, _, h => by cases h
  | .fz _ :: _, _, h => by cases h
  | .tp _ :: _, _, h => by cases h
  | .dK _ _ :: _, _, h => by cases h
  | .dT _ _ :: _, _, h => by cases h
  | .ins _ _ _ :: _, _, h => by cases h
theorem intsOf_map : ∀ ns : List Int, intsOf (ns.map D.int) = some ns
  | [] => rfl
  | n :: ns => by
    show (intsOf (ns.map D.int)).map (n :: ·) = _
    rw [intsOf_map ns]
    rfl
def sumF : D → Store → Out Sl
  | .lst ds, μ => match intsOf ds with
    | some ns => okV (.int ns.sum) μ
    | none => .stuck
  | _, _ => .stuck
theorem cld_sum : CallD K (rSum K) (gc1 sumF) := cld1 fun G μ H σ W a x Q R ra p => by
  unfold sumF at p
  split at p
  · rename_i ds
    cases e : intsOf ds with
    | none => rw [e] at p; exact p.elim
    | some ns =>
      rw [e] at p
      obtain ⟨t, xs, rfl, h1, r1⟩ := ra.sql
      rw [intsOf_eq e] at r1
      rw [r1.ints] at h1
      exact ⟨_, _, rfl, h1, Post.val R p (.int _)⟩
  · exact p.elim
/-- the greatest, the least -/
def maxL : List Int → Int
  | [] => 0
  | [x] => x
  | x :: xs => max x (maxL xs)
def minL : List Int → Int
  | [] => 0
  | [x] => x
  | x :: xs => min x (minL xs)
theorem maxL_ok : ∀ {ns : List Int} {m : Int}, m ∈ ns → (∀ y ∈ ns, y ≤ m) → maxL ns = m
  | [x], m, h, _ => by simp at h; rw [h]; rfl
  | x :: y :: r, m, h, hm => by
    have h1 : x ≤ m := hm x (by simp)
    show max x (maxL (y :: r)) = m
    by_cases hr : m ∈ y :: r
    · rw [maxL_ok hr fun z hz => hm z (List.mem_cons_of_mem _ hz)]
      omega
    · have hx : m = x := by
        rcases List.mem_cons.mp h with e | e
        · exact e
        · exact absurd e hr
      have le : ∀ {l : List Int}, l ≠ [] → (∀ z ∈ l, z ≤ m) → maxL l ≤ m := by
        intro l
        induction l with
        | nil => intro h; exact absurd rfl h
        | cons a t ih =>
          intro _ hl
          cases t with
          | nil => exact hl a (by simp)
          | cons b t =>
            show max a (maxL (b :: t)) ≤ m
            have h1 := ih (by simp) fun z hz => hl z (List.mem_cons_of_mem _ hz)
            have h2 := hl a (by simp)
            omega
      have h2 := le (l := y :: r) (by simp) fun z hz => hm z (List.mem_cons_of_mem _ hz)
      omega
theorem minL_ok : ∀ {ns : List Int} {m : Int}, m ∈ ns → (∀ y ∈ ns, m ≤ y) → minL ns = m
  | [x], m, h, _ => by simp at h; rw [h]; rfl
  | x :: y :: r, m, h, hm => by
    have h1 : m ≤ x := hm x (by simp)
    show min x (minL (y :: r)) = m
    by_cases hr : m ∈ y :: r
    · rw [minL_ok hr fun z hz => hm z (List.mem_cons_of_mem _ hz)]
      omega
    · have hx : m = x := by
        rcases List.mem_cons.mp h with e | e
        · exact e
        · exact absurd e hr
      have le : ∀ {l : List Int}, l ≠ [] → (∀ z ∈ l, m ≤ z) → m ≤ minL l := by
        intro l
        induction l with
        | nil => intro h; exact absurd rfl h
        | cons a t ih =>
          intro _ hl
          cases t with
          | nil => exact hl a (by simp)
          | cons b t =>
            show m ≤ min a (minL (b :: t))
            have h1 := ih (by simp) fun z hz => hl z (List.mem_cons_of_mem _ hz)
            have h2 := hl a (by simp)
            omega
      have h2 := le (l := y :: r) (by simp) fun z hz => hm z (List.mem_cons_of_mem _ hz)
      omega
def maxF : D → Store → Out Sl
  | .lst ds, μ => match intsOf ds with
    | some (n :: ns) => okV (.int (maxL (n :: ns))) μ
    | _ => .stuck
  | _, _ => .stuck
theorem cld_max : CallD K (rMax K) (gc1 maxF) := cld1 fun G μ H σ W a x Q R ra p => by
  unfold maxF at p
  split at p
  · rename_i ds
    split at p
    · rename_i n ns e
      obtain ⟨t, xs, rfl, h1, r1⟩ := ra.sql
      rw [intsOf_eq e] at r1
      rw [r1.ints] at h1
      exact ⟨_, _, rfl, h1, by simp, fun m hm hle => by rw [maxL_ok hm hle] at p; exact Post.val R p (.int _)⟩
    · exact p.elim
  · exact p.elim
def minF : D → Store → Out Sl
  | .lst ds, μ => match intsOf ds with
    | some (n :: ns) => okV (.int (minL (n :: ns))) μ
    | _ => .stuck
  | _, _ => .stuck
theorem cld_min : CallD K (rMin K) (gc1 minF) := cld1 fun G μ H σ W a x Q R ra p => by
  unfold minF at p
  split at p
  · rename_i ds
    split at p
    · rename_i n ns e
      obtain ⟨t, xs, rfl, h1, r1⟩ := ra.sql
      rw [intsOf_eq e] at r1
      rw [r1.ints] at h1
      exact ⟨_, _, rfl, h1, by simp, fun m hm hle => by rw [minL_ok hm hle] at p; exact Post.val R p (.int _)⟩
    · exact p.elim
  · exact p.elim
end

/-! ### isinstance -/
def tyName : D → Option String
  | .non => some "NoneType"
  | .bl _ => some "bool"
  | .int _ => some "int"
  | .str _ => some "str"
  | .lst _ => some "list"
  | .tup _ => some "tuple"
  | .dK _ _ => some "dict"
  | _ => none
def isiB (a b : String) : Bool := a == b || (a == "bool" && b == "int")
theorem isiB_ok : ∀ a ∈ ["NoneType", "bool", "int", "str", "list", "tuple", "dict"], ∀ b ∈ ["bool", "int", "str", "list", "tuple", "dict"], kitB a b = some (isiB a b) := by decide +kernel
def clsNm (n : String) : Bool := ["bool", "int", "str", "list", "tuple", "dict"].contains n
def clsL : List D → Option (List String)
  | [] => some []
  | .ty n :: ds => if clsNm n = true then (clsL ds).map (n :: ·) else none
  | _ :: _ => none
def isiF : D → D → Store → Out Sl
  | d, .ty n, μ => match tyName d with
    | some t => if clsNm n = true then okV (.bl (isiB t n)) μ else .stuck
    | none => .stuck
  | d, .tup cs, μ => match tyName d, clsL cs with
    | some t, some ns => okV (.bl (ns.any (isiB t))) μ
    | _, _ => .stuck
  | _, _, _ => .stuck
section
variable {K : PySem.W.Frag} {F : Addr → Prop} {H : Hp}
theorem tyName_mem {d : D} {t : String} (h : tyName d = some t) : t ∈ ["NoneType", "bool", "int", "str", "list", "tuple", "dict"] := by
  cases d <;> first | (cases h; decide) | cases h
theorem Now.tyx {d : D} {v : V} {t : String} (h : Now K F H d v) (e : tyName d = some t) : TyX K H v (.type t) := by
  cases h with
  | rep h =>
    cases h with
    | non => cases e; exact .base .non
    | bl b => cases e; exact .base (.bl b)
    | int i => cases e; exact .base (.int i)
    | str x => cases e; exact .base (.str x)
    | lst f h r => cases e; exact .base (.lst h)
    | tup h r =>
      cases e
      rcases h with ⟨o, h, _⟩ | ⟨o, its, n, k1, k2, k3⟩
      · exact .fTuple h
      · exact .kTuple k1 k2
    | dK f h r => cases e; exact .base (.dK h)
    | _ => cases e
  | at_ h =>
    cases h with
    | lst h r => cases e; exact .base (.lst h)
    | dK h r => cases e; exact .base (.dK h)
    | dT h q r => cases e
    | ins _ _ => cases e
theorem clsL_any {t : String} (ht : t ∈ ["NoneType", "bool", "int", "str", "list", "tuple", "dict"]) : ∀ {cs : List D} {ns : List String} {vs : List V}, clsL cs = some ns → RepL K F H cs vs → Paired ClsV vs (ns.map Value.type) ∧ PySem.W.kitAny K (.type t) (ns.map Value.type) = some (ns.any (isiB t))
  | [], _, _, h, .nil => by cases h; exact ⟨.nil, kitAny_nil⟩
  | .ty n :: cs, _, _, h, .cons r rr => by
    have h' : (if clsNm n = true then (clsL cs).map (n :: ·) else none) = some _ := h
    by_cases hn : clsNm n = true
    · rw [if_pos hn] at h'
      cases q : clsL cs with
      | none => rw [q] at h'; cases h'
      | some ms =>
        rw [q] at h'
        cases h'
        cases r
        obtain ⟨p1, p2⟩ := clsL_any ht q rr
        refine ⟨.cons (.ty n) p1, ?_⟩
        have hb : n ∈ ["bool", "int", "str", "list", "tuple", "dict"] := by
          unfold clsNm at hn
          exact List.contains_iff_mem.mp hn
        refine kitAny_cons (kit_ty (isiB_ok t ht n hb)) (fun e => ?_) (fun e => ?_)
        · rw [p2, List.any_cons, e]; rfl
        · rw [List.any_cons, e]; rfl
    · rw [if_neg hn] at h'; cases h'
  | .non :: _, _, _, h, _ => by cases h
  | .bl _ :: _, _, _, h, _ => by cases h
  | .int _ :: _, _, _, h, _ => by cases h
  | .str _ :: _, _, _, h, _ => by cases h
  | .glo _ :: _, _, _, h, _ => by cases h
  | .lst _ :: _, _, _, h, _ => by cases h
  | .tup _ :: _, _, _, h, _ => by cases h
  | .fz _ :: _, _, _, h, _ => by cases h
  | .tp _ :: _, _, _, h, _ => by cases h
  | .dK _ _ :: _, _, _, h, _ => by cases h
  | .dT _ _ :: _, _, _, h, _ => by cases h
  | .ins _ _ _ :: _, _, _, h, _ => by cases h
abbrev rIsiA (K : PySem.W.Frag) : List V → Hp → VK → Prop := fun xs H Q => rIsi K xs H Q ∨ rIsiT K xs H Q ∨ rIsiF K xs H Q ∨ rIsiK K xs H Q
theorem clr_isi {X : Cx} : CallR X (.builtin "isinstance") (rIsiA X.K) := call_isi.or (call_isiT.or (call_isiF.or call_isiK))
theorem cld_isi : CallD K (rIsiA K) (gc2 isiF) := cld2 fun G μ H σ W a b x y Q R ra rb p => by
  unfold isiF at p
  split at p
  · rename_i n
    cases e : tyName a with
    | none => rw [e] at p; exact p.elim
    | some t =>
      simp only [e] at p
      by_cases hn : clsNm n = true
      · rw [if_pos hn] at p
        have hb : n ∈ ["bool", "int", "str", "list", "tuple", "dict"] := by
          unfold clsNm at hn
          exact List.contains_iff_mem.mp hn
        have hy : y = .ty n := by
          cases rb with
          | rep h => cases h; rfl
          | at_ h => cases h
        rw [hy]
        exact .inl ⟨_, _, _, _, _, rfl, .ty n, ra.tyx e, kit_ty (isiB_ok t (tyName_mem e) n hb), Post.val R p (.bl _)⟩
      · rw [if_neg hn] at p; exact p.elim
  · rename_i cs
    cases e : tyName a with
    | none => rw [e] at p; exact p.elim
    | some t =>
      cases e2 : clsL cs with
      | none => rw [e, e2] at p; exact p.elim
      | some ns =>
        simp only [e, e2] at p
        obtain ⟨tp, xs, rfl, h1, r1⟩ := rb.tup
        obtain ⟨p1, p2⟩ := clsL_any (tyName_mem e) e2 r1
        rcases h1 with ⟨o, h1, _⟩ | ⟨o, its, n, k1, k2, -, k3, k4, k5⟩
        · exact .inr (.inr (.inl ⟨_, tp, o, xs, _, _, _, rfl, h1, p1, ra.tyx e, p2, Post.val R p (.bl _)⟩))
        · have e3 := ClsV.all p1 k5
          obtain ⟨oc, od, dt, sl⟩ := o
          simp only at k2 k3
          subst k2 k3
          refine .inr (.inr (.inr ⟨_, tp, od, ns.map Value.type, n, sl, _, _, rfl, ?_, ra.tyx e, p2, Post.val R p (.bl _)⟩))
          rw [k1, ← e3]
  · exact p.elim
end
end DL

namespace DL
open PySem PySem.Spec PyProof.Rows L2

/-! ### what a def promises -/
/-- the promise: from the arguments and the store what φ says -/
def spG (K : PySem.W.Frag) (n : Nat) (φ : List Sl → Store → Out Sl) : Sp := fun vs H Q E => vs.length = n ∧ ∃ G μ ss, Rel K G μ H ∧ SlReps K G H ss vs ∧ Post (SlRep K) K (fun c d _ H => E c d H) [] G H (φ ss μ) Q
theorem Post.at_ {K : PySem.W.Frag} {W : WX} {σ : L2.St} {G : Gh} {H : Hp} {α β : Type} {Rp : Gh → Hp → α → β → Prop} {o : Out α} {Q : β → Hp → Prop} (h : Post Rp K W σ G H o Q) : Post Rp K (fun c d _ H => W c d σ H) [] G H o Q := by
  cases o <;> exact h
/-- no cell among them -/
def allVB : List Sl → Bool
  | [] => true
  | .v _ :: ss => allVB ss
  | _ :: _ => false
section
variable {X : Cx} {P : PX} {W : WX} {a b c e : Expr} {es : List Expr} {fa fb fc : FE} {ft fu : FT} {fg : FA} {pos p : Pos}
theorem de_call {k : Nat} {f : Addr} {fd : FuncData} {ps : List Str} {x : Str} {φ : List Sl → Store → Out Sl} (F : FnOk X.prog X.w X.K X.mg X.base (L2.CX X.prog X.w) k f fd ps (spG X.K ps.length φ)) (hr : Room k X.A) (hg : Gl X x) (hm : X.mg x = some (.ref f))
    (hk : PySem.W.keepIn X.K (.ref f) = true) (hb : Binds X.K fd ps []) (tk : Takes X W) (ha : DA X P W (e :: es) fg) (hn : (e :: es).length = ps.length := by rfl) (hdb : (x == ("__debug__" : Str)) = false := by decide)
    (he : starEach (e :: es) X.env = (false, eval e X.env) :: starEach es X.env := by rfl) (hpl : (backTo pos (starEach es X.env)).any (·.1) = false := by rfl) : DE X P W (.Call (.Name x p) (e :: es) [] pos) (fCall φ fg) :=
  (pe_callS F hr hg hm hk hb (fun σ => passAt tk σ) ha.pa hdb he hpl).to fun σ H Q h => by
    obtain ⟨G, μ, ρ, he, h⟩ := h
    exact ⟨G, μ, ρ, he, Post.bindE h fun ss μ1 vs G1 H1 x1 R1 r1 h1 e0 => ⟨by rw [← r1.length, ha.ln _ _ _ _ e0]; exact hn, G1, μ1, ss, R1, r1, h1.at_⟩⟩
end
section
variable {X : Cx} {k : Nat} {f : Addr} {fd : FuncData} {ps : List Str} {sp : Sp} {E : L2.St → XK} {x : Str} {p pos : Pos}
theorem pe_callS0 {CX : CXT} (F : FnOk X.prog X.w X.K X.mg X.base CX k f fd ps sp) (hr : Room k X.A) (hg : Gl X x) (hm : X.mg x = some (.ref f)) (hk : PySem.W.keepIn X.K (.ref f) = true) (hb : Binds X.K fd ps []) (hx : ∀ σ, PassesAt CX X σ (E σ))
    (hdb : (x == ("__debug__" : Str)) = false := by decide) : PE X (.Call (.Name x p) [] [] pos) (fun σ H Q => sp [] H Q (E σ)) := by
  refine ⟨fun pins s σ H Q I h => ?_⟩
  refine wpAny_Call_Name_kw (ld_glob I hg hm ?_ hdb)
  exact PySem.W.callWith_K0 I.kIn hk (run_fnS (us := []) F hr hb (hx σ) I .nil h)
theorem de_call0 {P : PX} {W : WX} {φ : List Sl → Store → Out Sl} (F : FnOk X.prog X.w X.K X.mg X.base (L2.CX X.prog X.w) k f fd ps (spG X.K ps.length φ)) (hr : Room k X.A) (hg : Gl X x) (hm : X.mg x = some (.ref f))
    (hk : PySem.W.keepIn X.K (.ref f) = true) (hb : Binds X.K fd ps []) (tk : Takes X W) (hn : 0 = ps.length := by rfl) (hdb : (x == ("__debug__" : Str)) = false := by decide) : DE X P W (.Call (.Name x p) [] [] pos) (fun _ μ => φ [] μ) :=
  (pe_callS0 F hr hg hm hk hb (fun σ => passAt tk σ) hdb).to fun σ H Q h => by
    obtain ⟨G, μ, ρ, he, h⟩ := h
    exact ⟨hn, G, μ, [], he.rel, .nil, h.at_⟩
end

/-! ### statements -/
inductive Ctl where
  | nx | rt (s : Sl) | bk | ct
inductive SOut where
  | stuck | go (c : Ctl) (ρ : Env) (μ : Store) | exc (e : Exc) (ρ : Env) (μ : Store)
abbrev FS := Env → Store → SOut
def Post1 (K : PySem.W.Frag) (W : WX) (G : Gh) (H : Hp) (o : SOut) (D : Ends) : Prop :=
  match o with
  | .stuck => False
  | .go c ρ μ => ∀ σ' G' H', Ext G H G' H' → Rel K G' μ H' → EnvOk K G' H' ρ σ' → (match c with
    | .nx => D.nx σ' H'
    | .bk => D.bk σ' H'
    | .ct => D.ct σ' H'
    | .rt s => ∀ v, SlRep K G' H' s v → D.rt v H')
  | .exc e ρ μ => ∀ d σ' G' H', Ext G H G' H' → Rel K G' μ H' → EnvOk K G' H' ρ σ' → ExcAt K G' H' e d → W (.ref (He.ga K e.cls)) d σ' H'
def TDS (K : PySem.W.Frag) (P : PX) (W : WX) (f : FS) : TS := fun D σ H => ∃ G μ ρ, Here K P G μ ρ σ H ∧ Post1 K W G H (f ρ μ) D
abbrev DS (X : Cx) (P : PX) (W : WX) (e : Stmt) (f : FS) : Prop := PS X e (TDS X.K P W f)
abbrev DSs (X : Cx) (P : PX) (W : WX) (e : List Stmt) (f : FS) : Prop := PSs X e (TDS X.K P W f)
def SOut.seq (o : SOut) (k : FS) : SOut := match o with
  | .go .nx ρ μ => k ρ μ
  | o => o
def Out.st {α : Type} (o : Out α) (ρ : Env) (k : α → Store → SOut) : SOut := match o with
  | .stuck => .stuck
  | .ok a μ => k a μ
  | .exc e μ => .exc e ρ μ
section
variable {K : PySem.W.Frag} {G G1 : Gh} {H H1 : Hp} {μ : Store} {W : WX} {σ : L2.St} {ρ : Env} {α β : Type} {Rp : Gh → Hp → α → β → Prop} {D : Ends} {P : PX}
theorem Post1.shift {o : SOut} (h : Post1 K W G H o D) (x : Ext G H G1 H1) : Post1 K W G1 H1 o D := by
  cases o with
  | stuck => exact h
  | go c ρ μ => exact fun σ' G' H' y => h σ' G' H' (x.trans y)
  | exc e ρ μ => exact fun d σ' G' H' y => h d σ' G' H' (x.trans y)
theorem Post1.bind {o : Out α} {k : α → Store → SOut} {Q1 : β → Hp → Prop} (he : Here K P G μ ρ σ H) (h : Post1 K W G H (o.st ρ k) D)
    (hk : ∀ a μ1 b G1 H1, Ext G H G1 H1 → Rel K G1 μ1 H1 → Rp G1 H1 a b → Post1 K W G1 H1 (k a μ1) D → Q1 b H1) : Post Rp K W σ G H o Q1 := by
  cases o with
  | stuck => exact h
  | ok a μ => exact fun b G' H' x R r => hk a μ b G' H' x R r (Post1.shift h x)
  | exc e μ => exact fun d G' H' x R q => h d σ G' H' x R (he.rel.env x he.env) q
theorem Post1.nx (h : Post1 K W G H (.go .nx ρ μ) D) (R : Rel K G μ H) (e : EnvOk K G H ρ σ) : D.nx σ H := h σ G H .refl R e
end
def sSkip : FS := fun ρ μ => .go .nx ρ μ
def sSeq (f g : FS) : FS := fun ρ μ => (f ρ μ).seq g
def sIf (c : FT) (f g : FS) : FS := fun ρ μ => (c ρ μ).st ρ fun b μ1 => if b = true then f ρ μ1 else g ρ μ1
def sRet (f : FE) : FS := fun ρ μ => (f ρ μ).st ρ fun s μ1 => .go (.rt s) ρ μ1
def sDrop (f : FE) : FS := fun ρ μ => (f ρ μ).st ρ fun _ μ1 => .go .nx ρ μ1
section
variable {X : Cx} {P : PX} {W : WX} {a b c e : Expr} {es : List Expr} {st : Stmt} {sts : List Stmt} {fa fb fc : FE} {ft fu : FT} {fg : FA} {f g : FS} {pos p : Pos}
theorem dss_nil : DSs X P W [] sSkip := pss_nil.to fun D σ H h => by
  obtain ⟨G, μ, ρ, he, h⟩ := h
  exact h.nx he.rel he.env
theorem dss_cons (h1 : DS X P W st f) (h2 : DSs X P W sts g) : DSs X P W (st :: sts) (sSeq f g) := (pss_cons h1 h2).to fun D σ H h => by
  obtain ⟨G, μ, ρ, he, h⟩ := h
  refine ⟨G, μ, ρ, he, ?_⟩
  have h' : Post1 X.K W G H ((f ρ μ).seq g) D := h
  cases q : f ρ μ with
  | stuck => rw [q] at h'; exact h'
  | exc e ρ1 μ1 => rw [q] at h'; exact h'
  | go c ρ1 μ1 =>
    rw [q] at h'
    cases c with
    | nx => exact fun σ' G' H' x R e => ⟨G', μ1, ρ1, ⟨by rw [x.ex]; exact he.p, R, e⟩, h'.shift x⟩
    | bk => exact h'
    | ct => exact h'
    | rt s => exact h'
theorem dss_one (h1 : DS X P W st f) : DSs X P W [st] f := pss_one h1
/-- a ghost step ahead of a block -/
def Ghost (K : PySem.W.Frag) (t : Env → Store → Option (Env × Store)) : Prop := ∀ G μ ρ σ H, Rel K G μ H → EnvOk K G H ρ σ → ∀ ρ' μ', t ρ μ = some (ρ', μ') → ∃ G', Ext G H G' H ∧ Rel K G' μ' H ∧ EnvOk K G' H ρ' σ
def sGhost (t : Env → Store → Option (Env × Store)) (f : FS) : FS := fun ρ μ => match t ρ μ with
  | some (ρ', μ') => f ρ' μ'
  | none => .stuck
theorem dss_ghost {t : Env → Store → Option (Env × Store)} (ht : Ghost X.K t) (h : DSs X P W sts f) : DSs X P W sts (sGhost t f) := h.to fun D σ H q => by
  obtain ⟨G, μ, ρ, he, q⟩ := q
  have q' : Post1 X.K W G H (match t ρ μ with
    | some (ρ', μ') => f ρ' μ'
    | none => .stuck) D := q
  cases e : t ρ μ with
  | none => rw [e] at q'; exact q'.elim
  | some r =>
    obtain ⟨ρ', μ'⟩ := r
    rw [e] at q'
    obtain ⟨G', x, R, env⟩ := ht G μ ρ σ H he.rel he.env ρ' μ' e
    exact ⟨G', μ', ρ', ⟨by rw [x.ex]; exact he.p, R, env⟩, Post1.shift q' x⟩
theorem ds_pass : DS X P W (.Pass pos) sSkip := ps_pass.to fun D σ H h => by
  obtain ⟨G, μ, ρ, he, h⟩ := h
  exact h.nx he.rel he.env
theorem ds_break : DS X P W (.Break pos) (fun ρ μ => .go .bk ρ μ) := ps_break.to fun D σ H h => by
  obtain ⟨G, μ, ρ, he, h⟩ := h
  exact h σ G H .refl he.rel he.env
theorem ds_continue : DS X P W (.Continue pos) (fun ρ μ => .go .ct ρ μ) := ps_continue.to fun D σ H h => by
  obtain ⟨G, μ, ρ, he, h⟩ := h
  exact h σ G H .refl he.rel he.env
theorem ds_expr (ha : DE X P W a fa) (hs : swapsWith a none pos.line X.env = pure false := by rfl) : DS X P W (.Expr a pos) (sDrop fa) := (ps_expr ha hs).to fun D σ H h => by
  obtain ⟨G, μ, ρ, he, h⟩ := h
  exact ⟨G, μ, ρ, he, h.bind he fun s μ1 x G1 H1 x1 R1 r1 h1 => h1.nx R1 (he.rel.env x1 he.env)⟩
theorem ds_ret (ha : DE X P W a fa) : DS X P W (.Return (some a) pos) (sRet fa) := (ps_ret ha).to fun D σ H h => by
  obtain ⟨G, μ, ρ, he, h⟩ := h
  exact ⟨G, μ, ρ, he, h.bind he fun s μ1 x G1 H1 x1 R1 r1 h1 => h1 σ G1 H1 .refl R1 (he.rel.env x1 he.env) x r1⟩
theorem ds_retN : DS X P W (.Return none pos) (fun ρ μ => .go (.rt (.v .non)) ρ μ) := ps_retN.to fun D σ H h => by
  obtain ⟨G, μ, ρ, he, h⟩ := h
  exact h σ G H .refl he.rel he.env .non .non
theorem ds_if {ts fs : List Stmt} (hc : DT X P W c ft) (ha : DSs X P W ts f) (hb : DSs X P W fs g) : DS X P W (.If c ts fs pos) (sIf ft f g) := (ps_if hc ha hb).to fun D σ H h => by
  obtain ⟨G, μ, ρ, he, h⟩ := h
  refine ⟨G, μ, ρ, he, h.bind he fun s μ1 x G1 H1 x1 R1 r1 h1 => ?_⟩
  subst r1
  cases s with
  | true => exact ⟨G1, μ1, ρ, he.step x1 R1, h1⟩
  | false => exact ⟨G1, μ1, ρ, he.step x1 R1, h1⟩

/-! ### targets, stores -/
abbrev FG := Sl → Env → Store → Option (Env × Store)
def TDG (K : PySem.W.Frag) (P : PX) (f : FG) : TG := fun v σ H Q => ∃ G μ ρ s, Here K P G μ ρ σ H ∧ SlRep K G H s v ∧ (match f s ρ μ with
  | some (ρ', μ') => ∀ σ' G' H', Ext G H G' H' → Rel K G' μ' H' → EnvOk K G' H' ρ' σ' → Q σ' H'
  | none => False)
abbrev DG (X : Cx) (P : PX) (e : Expr) (f : FG) : Prop := PG X e (TDG X.K P f)
theorem _root_.L2.PG.to {X : Cx} {e : Expr} {t t' : TG} (h : PG X e t) (w : ∀ v σ H Q, t' v σ H Q → t v σ H Q) : PG X e t' := ⟨fun pins s σ H v u Q I r q => h.run pins s σ H v u Q I r (w v σ H Q q)⟩
def gNm (i : Nat) : FG := fun s ρ μ => some (ρ.set i (some s), μ)
theorem dg_name (i : Nat) {x : Str} (hN : X.N.Nodup) (hi : X.N[i]? = some x := by rfl) (hx : Loc X.env.scope x := by first | exact Or.inl rfl | exact Or.inr rfl) (hf : X.fn x = true ∨ X.env.scope.names.lookup x = some .local := by first | exact .inl rfl | exact .inr rfl) : DG X P (.Name x pos) (gNm i) :=
  (pg_name hN hi hx hf).to fun v σ H Q h => by
    obtain ⟨G, μ, ρ, s, he, r, h⟩ := h
    exact h _ G H .refl he.rel (he.env.set r i)
abbrev FGs := List D → Env → Store → Option (Env × Store)
def TDGs (K : PySem.W.Frag) (P : PX) (f : FGs) : TGs := fun vs σ H Q => ∃ G μ ρ ds, Here K P G μ ρ σ H ∧ RepL K G.F H ds vs ∧ (match f ds ρ μ with
  | some (ρ', μ') => ∀ σ' G' H', Ext G H G' H' → Rel K G' μ' H' → EnvOk K G' H' ρ' σ' → Q σ' H'
  | none => False)
abbrev DGs (X : Cx) (P : PX) (e : List Expr) (f : FGs) : Prop := PGs X e (TDGs X.K P f)
theorem _root_.L2.PGs.to {X : Cx} {e : List Expr} {t t' : TGs} (h : PGs X e t) (w : ∀ v σ H Q, t' v σ H Q → t v σ H Q) : PGs X e t' := ⟨fun pins s σ H v u Q I r q => h.run pins s σ H v u Q I r (w v σ H Q q)⟩
def gsNil : FGs := fun ds ρ μ => match ds with
  | [] => some (ρ, μ)
  | _ => none
def gsCons (f : FG) (g : FGs) : FGs := fun ds ρ μ => match ds with
  | d :: ds => match f (.v d) ρ μ with
    | some (ρ', μ') => g ds ρ' μ'
    | none => none
  | [] => none
theorem dgs_nil : DGs X P [] gsNil := pgs_nil.to fun vs σ H Q h => by
  obtain ⟨G, μ, ρ, ds, he, r, h⟩ := h
  cases r with
  | nil => exact ⟨rfl, h σ G H .refl he.rel he.env⟩
  | cons _ _ => exact h.elim
theorem dgs_cons {hf : FG} {hg : FGs} (h1 : DG X P a hf) (h2 : DGs X P es hg) (hs : (assignEach (a :: es) X.env).map (·.2) = assign a X.env :: (assignEach es X.env).map (·.2) := by rfl) : DGs X P (a :: es) (gsCons hf hg) := (pgs_cons h1 h2 hs).to fun vs σ H Q h => by
  obtain ⟨G, μ, ρ, ds, he, r, h⟩ := h
  cases r with
  | nil => exact h.elim
  | @cons d v ds vs r rr =>
    refine ⟨v, vs, rfl, G, μ, ρ, .v d, he, r, ?_⟩
    have h' : (match (match hf (.v d) ρ μ with
      | some (ρ', μ') => hg ds ρ' μ'
      | none => none) with
      | some (ρ', μ') => ∀ σ' G' H', Ext G H G' H' → Rel X.K G' μ' H' → EnvOk X.K G' H' ρ' σ' → Q σ' H'
      | none => False) := h
    cases e : hf (.v d) ρ μ with
    | none => rw [e] at h'; exact h'.elim
    | some q =>
      obtain ⟨ρ1, μ1⟩ := q
      simp only [e] at h'
      intro σ1 G1 H1 x1 R1 e1
      refine ⟨G1, μ1, ρ1, ds, ⟨by rw [x1.ex]; exact he.p, R1, e1⟩, he.rel.repL x1 rr, ?_⟩
      cases e2 : hg ds ρ1 μ1 with
      | none => rw [e2] at h'; exact h'.elim
      | some q2 =>
        obtain ⟨ρ2, μ2⟩ := q2
        simp only [e2] at h'
        exact fun σ2 G2 H2 x2 R2 e2 => h' σ2 G2 H2 (x1.trans x2) R2 e2
/-- a, b = .. : of a tuple or of a list -/
def gUnp (n : Nat) (f : FGs) : FG := fun s ρ μ => match s.get μ with
  | some (.tup ds) => if ds.length = n then f ds ρ μ else none
  | some (.tp ds) => if ds.length = n then f ds ρ μ else none
  | _ => none
def gUnpL (n : Nat) (f : FGs) : FG := fun s ρ μ => match s.get μ with
  | some (.lst ds) => if ds.length = n then f ds ρ μ else none
  | _ => none
theorem dg_tup {k n : Nat} {hg : FGs} (hc : X.calm = true) (h : DGs X P es hg) (hn : (assignEach es X.env).length = n := by rfl) (hst : (assignEach es X.env).findIdx? (·.1) = none := by rfl) : DG X P (.Tuple es k pos) (gUnp n hg) := (pg_tup hc h hn hst).to fun v σ H Q h => by
  obtain ⟨G, μ, ρ, s, he, r, h⟩ := h
  unfold gUnp at h
  cases e : s.get μ with
  | none => rw [e] at h; exact h.elim
  | some d =>
    have rn := he.rel.now r e
    rw [e] at h
    cases d with
    | tup ds =>
      simp only at h
      by_cases hl : ds.length = n
      · rw [if_pos hl] at h
        obtain ⟨a, xs, rfl, h1, r1⟩ := rn.tup
        exact ⟨a, xs, rfl, h1.sq, by rw [← r1.length]; exact hl, G, μ, ρ, ds, he, r1, h⟩
      · rw [if_neg hl] at h; exact h.elim
    | tp ds =>
      simp only at h
      by_cases hl : ds.length = n
      · rw [if_pos hl] at h
        obtain ⟨a, xs, rfl, h1, r1⟩ := rn.tp
        exact ⟨a, xs, rfl, .of h1, by rw [← r1.length]; exact hl, G, μ, ρ, ds, he, r1, h⟩
      · rw [if_neg hl] at h; exact h.elim
    | _ => exact h.elim
theorem dg_unl {k n : Nat} {hg : FGs} (hc : X.calm = true) (h : DGs X P es hg) (hn : (assignEach es X.env).length = n := by rfl) (hst : (assignEach es X.env).findIdx? (·.1) = none := by rfl) : DG X P (.Tuple es k pos) (gUnpL n hg) := (pg_unl hc h hn hst).to fun v σ H Q h => by
  obtain ⟨G, μ, ρ, s, he, r, h⟩ := h
  unfold gUnpL at h
  cases e : s.get μ with
  | none => rw [e] at h; exact h.elim
  | some d =>
    have rn := he.rel.now r e
    rw [e] at h
    cases d with
    | lst ds =>
      simp only at h
      by_cases hl : ds.length = n
      · rw [if_pos hl] at h
        obtain ⟨a, xs, rfl, h1, r1⟩ := rn.lst
        exact ⟨a, xs, rfl, .of h1, by rw [← r1.length]; exact hl, G, μ, ρ, ds, he, r1, h⟩
      · rw [if_neg hl] at h; exact h.elim
    | _ => exact h.elim
def sAsg (f : FE) (g : FG) : FS := fun ρ μ => (f ρ μ).st ρ fun s μ1 => match g s ρ μ1 with
  | some (ρ', μ') => .go .nx ρ' μ'
  | none => .stuck
theorem TDS.asg {K : PySem.W.Frag} {hg : FG} : ∀ D σ H, TDS K P W (sAsg fa hg) D σ H → tAsg (TD K P W fa) (TDG K P hg) D σ H := by
  rintro D σ H ⟨G, μ, ρ, he, h⟩
  refine ⟨G, μ, ρ, he, h.bind he fun s μ1 x G1 H1 x1 R1 r1 h1 => ⟨G1, μ1, ρ, s, he.step x1 R1, r1, ?_⟩⟩
  cases e : hg s ρ μ1 with
  | none => simp only [e] at h1; exact h1.elim
  | some q =>
    obtain ⟨ρ', μ'⟩ := q
    simp only [e] at h1
    exact fun σ' G' H' x' R' e' => h1 σ' G' H' x' R' e'
theorem ds_asg {tg : Expr} {hg : FG} (ha : DE X P W a fa) (h : DG X P tg hg) (hs : swapsWithSole [tg] a pos.line X.env = pure false := by rfl) (hw : swappedStores [tg] a X.env = pure none := by rfl)
    (h1 : (assignEach [tg] X.env).map (·.2) = [assign tg X.env] := by rfl) : DS X P W (.Assign [tg] a pos) (sAsg fa hg) := (ps_asg ha h hs hw h1).to TDS.asg
theorem ds_set (i : Nat) {x : Str} {p' : Pos} (hN : X.N.Nodup) (ha : DE X P W a fa) (hi : X.N[i]? = some x := by rfl) (hx : Loc X.env.scope x := by first | exact Or.inl rfl | exact Or.inr rfl) (hs : swapsWith a (some (.Name x p')) pos.line X.env = pure false := by rfl)
    (hf : X.fn x = true ∨ X.env.scope.names.lookup x = some .local := by first | exact .inl rfl | exact .inr rfl) : DS X P W (.Assign [.Name x p'] a pos) (sAsg fa (gNm i)) := (ps_set hN hi hx ha hs hf).to fun D σ H h => by
  obtain ⟨G, μ, ρ, he, h⟩ := h
  exact ⟨G, μ, ρ, he, h.bind he fun s μ1 x G1 H1 x1 R1 r1 h1 => h1.nx R1 ((he.rel.env x1 he.env).set r1 i)⟩
/-- a, b = e1, e2 -/
def sPar (i j : Nat) (f : FA) : FS := fun ρ μ => (f ρ μ).st ρ fun ss μ1 => match ss with
  | [s, t] => .go .nx ((ρ.set i (some s)).set j (some t)) μ1
  | _ => .stuck
theorem ds_par (i j : Nat) {x y : Str} {px py pt : Pos} {kt k2 pt2} (hc : X.calm = true) (hN : X.N.Nodup) (ha : DA X P W [a, b] fg)
    (hi : X.N[i]? = some x := by rfl) (hj : X.N[j]? = some y := by rfl) (hij : i ≠ j := by decide)
    (hx : X.env.scope.names.lookup x = some .local := by rfl) (hy : X.env.scope.names.lookup y = some .local := by rfl)
    (hw : swappedStores [.Tuple [.Name x px, .Name y py] kt pt] (.Tuple [a, b] k2 pt2) X.env = pure (some [x, y]) := by rfl)
    (hs : swapsWithSole [.Tuple [.Name x px, .Name y py] kt pt] (.Tuple [a, b] k2 pt2) pos.line X.env = pure false := by rfl) :
    DS X P W (.Assign [.Tuple [.Name x px, .Name y py] kt pt] (.Tuple [a, b] k2 pt2) pos) (sPar i j fg) := (ps_par hc hN hi hj hij hx hy ha.pa hw hs).to fun D σ H h => by
  obtain ⟨G, μ, ρ, he, h⟩ := h
  refine ⟨G, μ, ρ, he, h.bind he fun ss μ1 vs G1 H1 x1 R1 r1 h1 => ?_⟩
  match ss, vs, r1 with
  | [s, t], [v, w], .cons q1 (.cons q2 .nil) => exact ⟨v, w, rfl, h1.nx R1 (((he.rel.env x1 he.env).set q1 i).set q2 j)⟩
/-- x op= e -/
def sAug (i : Nat) (f : FE) (g : Sl → Sl → Store → Out Sl) : FS := fun ρ μ => match ρ[i]? with
  | some (some s) => (f ρ μ).st ρ fun t μ1 => (g s t μ1).st ρ fun z μ2 => .go .nx (ρ.set i (some z)) μ2
  | _ => .stuck
end
end DL

namespace DL
open PySem PySem.Spec PyProof.Rows L2

/-! ### a cell is written -/
section
variable {K : PySem.W.Frag} {G G1 : Gh} {H H1 : Hp} {μ : Store} {W : WX} {σ : L2.St}
theorem Ext.put {n : Nat} {a : Addr} {o : HO} (ha : G.am[n]? = some (some a)) : Ext G H G (upd H a o) where
  keep := fun b u h m => by
    by_cases e : b = a
    · exact absurd (List.mem_of_getElem? ha) (by rw [← e]; exact m)
    · rw [upd_ne e]; exact h
  F := fun _ h => h
  newF := fun _ h => .inl h
  newA := fun _ h => .inl h
  back := fun _ _ _ h => h
  le := Nat.le_refl _
  ex := rfl
  kept := fun b u h => by
    by_cases e : b = a
    · exact ⟨o, by rw [e]; exact upd_same⟩
    · exact ⟨u, by rw [upd_ne e]; exact h⟩
theorem Rel.put (R : Rel K G μ H) {n : Nat} {a : Addr} {o : HO} {d : D} (ha : G.am[n]? = some (some a)) (hd : RepAt K G.F (upd H a o) a d) : Rel K G (μ.set n (some d)) (upd H a o) where
  dom := fun b f => by
    obtain ⟨u, h, m⟩ := R.dom b f
    have e : b ≠ a := fun e => (R.at_am (List.mem_of_getElem? ha)).1 (e ▸ f)
    exact ⟨u, by rw [upd_ne e]; exact h, m⟩
  len := by rw [List.length_set]; exact R.len
  cell := fun c d' e => by
    by_cases hc : n = c
    · subst hc
      have hl : n < μ.length := by rw [← R.len]; exact (List.getElem?_eq_some_iff.mp ha).1
      rw [List.getElem?_set_self hl] at e
      cases e
      exact ⟨a, ha, (R.at_am (List.mem_of_getElem? ha)).1, hd⟩
    · rw [List.getElem?_set_ne hc] at e
      obtain ⟨b, eb, nf, ra⟩ := R.cell c d' e
      have ne : b ≠ a := fun q => hc (R.inj n c a ha (q ▸ eb))
      exact ⟨b, eb, nf, R.cellMono (Ext.put ha) eb e fun u h => by rw [upd_ne ne]; exact h⟩
  live := fun c b e => by
    by_cases hc : n = c
    · subst hc
      have hl : n < μ.length := by rw [← R.len]; exact (List.getElem?_eq_some_iff.mp ha).1
      exact ⟨d, by rw [List.getElem?_set_self hl]⟩
    · obtain ⟨d', e'⟩ := R.live c b e
      exact ⟨d', by rw [List.getElem?_set_ne hc]; exact e'⟩
  inj := R.inj
/-- what a live cell is -/
theorem Rel.cellOf (R : Rel K G μ H) {n : Nat} {d : D} {v : V} (h : SlRep K G H (.c n) v) (e : (μ[n]?).join = some d) : ∃ a, v = .ref a ∧ G.am[n]? = some (some a) ∧ RepAt K G.F H a d := by
  have e' : μ[n]? = some (some d) := by
    cases z : μ[n]? with
    | none => rw [z] at e; cases e
    | some o => rw [z] at e; exact congrArg some e
  obtain ⟨a, ea, _, ra⟩ := R.cell n d e'
  exact ⟨a, h.2 a ea, ea, ra⟩
theorem RepL.up {F : Addr → Prop} {a : Addr} {o : HO} (R : Rel K G μ H) {n : Nat} (ha : G.am[n]? = some (some a)) {ds : List D} {vs : List V} (r : RepL K G.F H ds vs) : RepL K G.F (upd H a o) ds vs :=
  R.repL (Ext.put ha) r
theorem Rep.up {a : Addr} {o : HO} (R : Rel K G μ H) {n : Nat} (ha : G.am[n]? = some (some a)) {d : D} {v : V} (r : Rep K G.F H d v) : Rep K G.F (upd H a o) d v :=
  R.rep (Ext.put ha) r
/-- a list cell is written, a value handed back -/
theorem Post.putL {n : Nat} {a : Addr} {ds : List D} {xs : List V} {d : D} {v : V} {Q : VK} (R : Rel K G μ H) (h : Post (SlRep K) K W σ G H (.ok (.v d) (μ.set n (some (.lst ds)))) Q) (ha : G.am[n]? = some (some a)) (r : RepL K G.F H ds xs) (rv : Rep K G.F H d v) :
    Q v (upd H a (.lst xs)) := h v G _ (Ext.put ha) (R.put ha (.lst upd_same (RepL.up (F := G.F) R ha r))) (Rep.up R ha rv)
end

/-! ### methods of lists -/
def MtD (K : PySem.W.Frag) (r : V → List V → Hp → VK → Prop) (g : Sl → List Sl → Store → Out Sl) : Prop :=
  ∀ (G : Gh) (μ : Store) (H : Hp) (σ : L2.St) (W : WX) (s : Sl) (ss : List Sl) (x : V) (vs : List V) (Q : VK), Rel K G μ H → SlRep K G H s x → SlReps K G H ss vs → Post (SlRep K) K W σ G H (g s ss μ) Q → r x vs H Q
def isLst (s : Sl) (μ : Store) : Bool := match s.get μ with
  | some (.lst _) => true
  | _ => false
def isDct (s : Sl) (μ : Store) : Bool := match s.get μ with
  | some (.dK _ _) => true
  | _ => false
def fMeth (ty : Sl → Store → Bool) (fo : FE) (fa : FA) (g : Sl → List Sl → Store → Out Sl) : FE := fun ρ μ => (fo ρ μ).bind fun s μ1 => if ty s μ1 = true then (fa ρ μ1).bind fun ss μ2 => g s ss μ2 else .stuck
theorem Rel.tyLst {K : PySem.W.Frag} {G : Gh} {H : Hp} {μ : Store} (R : Rel K G μ H) {s : Sl} {v : V} (h : SlRep K G H s v) (e : isLst s μ = true) : tyV K "list" v H := by
  unfold isLst at e
  cases q : s.get μ with
  | none => rw [q] at e; cases e
  | some d =>
    rw [q] at e
    cases d with
    | lst ds =>
      obtain ⟨a, xs, rfl, h1, _⟩ := (R.now h q).sql
      exact .inl ⟨rfl, xs, h1⟩
    | _ => cases e
theorem Rel.tyDct {K : PySem.W.Frag} {G : Gh} {H : Hp} {μ : Store} (R : Rel K G μ H) {s : Sl} {v : V} (h : SlRep K G H s v) (e : isDct s μ = true) : tyV K "dict" v H := by
  unfold isDct at e
  cases q : s.get μ with
  | none => rw [q] at e; cases e
  | some d =>
    rw [q] at e
    have n := R.now h q
    cases d with
    | dK ks vs =>
      obtain ⟨a, xs, rfl, h1, _⟩ := n.dK
      exact .inr (.inr (.inl ⟨rfl, .inl ⟨_, h1⟩⟩))
    | _ => cases e
section
variable {X : Cx} {P : PX} {W : WX} {o e : Expr} {es : List Expr} {fo : FE} {fg : FA} {name : Str} {apos cpos : Pos} {id : String} {r : V → List V → Hp → VK → Prop} {g : Sl → List Sl → Store → Out Sl}
theorem de_lm (slot : Slot "list" name id) (hty : typeOf (.builtin id) = pure (.type "method_descriptor")) (hm : MtR X id r) (hd : MtD X.K r g) (ho : DE X P W o fo) (ha : DA X P W (e :: es) fg)
    (hbase : attributeBase o name X.env (eval o X.env) = eval o X.env := by rfl)
    (hfew : ((backTo cpos (starEach (e :: es) X.env)).all (fun x => !x.1) && (backToKw cpos (keywordEach [] X.env)).all (fun x => x.1.isSome)
      && decide ((e :: es).length + ([] : List Keyword).length + (if ([] : List Keyword).isEmpty then 0 else 1) < 30)) = true := by rfl)
    (hline : (apos.endLine == cpos.line) = true := by rfl) (hs : starEach (e :: es) X.env = (false, eval e X.env) :: starEach es X.env := by rfl) (hplain : (backTo cpos (starEach es X.env)).any (·.1) = false := by rfl) :
    DE X P W (.Call (.Attribute o name apos) (e :: es) [] cpos) (fMeth isLst fo fg g) := (pe_bm PySem.F.plainAttrs_list slot hty hm ho ha.pa hbase hfew hline hs hplain).to fun σ H Q h => by
  obtain ⟨G, μ, ρ, he, h⟩ := h
  refine ⟨G, μ, ρ, he, Post.bind h fun s μ1 x G1 H1 x1 R1 r1 h1 => ?_⟩
  by_cases hl : isLst s μ1 = true
  · rw [if_pos hl] at h1
    refine ⟨R1.tyLst r1 hl, G1, μ1, ρ, he.step x1 R1, Post.bind h1 fun ss μ2 vs G2 H2 x2 R2 r2 h2 => ?_⟩
    exact hd G2 μ2 H2 σ W s ss x vs Q R2 (R1.sl x2 r1) r2 h2
  · rw [if_neg hl] at h1; exact h1.elim
theorem de_lm0 (slot : Slot "list" name id) (hty : typeOf (.builtin id) = pure (.type "method_descriptor")) (hm : MtR X id r) (hd : MtD X.K r g) (ho : DE X P W o fo)
    (hbase : attributeBase o name X.env (eval o X.env) = eval o X.env := by rfl) (hline : (apos.endLine == cpos.line) = true := by rfl) : DE X P W (.Call (.Attribute o name apos) [] [] cpos) (fMeth isLst fo fNil g) := (pe_bm0 PySem.F.plainAttrs_list slot hty hm ho hbase hline).to fun σ H Q h => by
  obtain ⟨G, μ, ρ, he, h⟩ := h
  refine ⟨G, μ, ρ, he, Post.bind h fun s μ1 x G1 H1 x1 R1 r1 h1 => ?_⟩
  by_cases hl : isLst s μ1 = true
  · rw [if_pos hl] at h1
    exact ⟨R1.tyLst r1 hl, hd G1 μ1 H1 σ W s [] x [] Q R1 r1 .nil h1⟩
  · rw [if_neg hl] at h1; exact h1.elim
end
section
variable {K : PySem.W.Frag}
/-- the content of a cell that is a list -/
def lstAt (s : Sl) (μ : Store) (k : Nat → List D → Out Sl) : Out Sl := match s with
  | .c n => match (μ[n]?).join with
    | some (.lst ds) => k n ds
    | _ => .stuck
  | _ => .stuck
theorem lstAt_ok {G : Gh} {H : Hp} {μ : Store} {W : WX} {σ : L2.St} {s : Sl} {x : V} {k : Nat → List D → Out Sl} {Q : VK} (R : Rel K G μ H) (h : SlRep K G H s x) (p : Post (SlRep K) K W σ G H (lstAt s μ k) Q) :
    ∃ n ds a xs, x = .ref a ∧ G.am[n]? = some (some a) ∧ H a = some (.lst xs) ∧ RepL K G.F H ds xs ∧ Post (SlRep K) K W σ G H (k n ds) Q := by
  unfold lstAt at p
  match s with
  | .c n =>
    cases e : (μ[n]?).join with
    | none => simp only [e] at p; exact p.elim
    | some d =>
      simp only [e] at p
      obtain ⟨a, rfl, ea, ra⟩ := R.cellOf h e
      cases ra with
      | lst h1 r1 => exact ⟨n, _, a, _, rfl, ea, h1, r1, p⟩
      | _ => exact p.elim
def appendG (s : Sl) (ss : List Sl) (μ : Store) : Out Sl := match ss with
  | [.v d] => lstAt s μ fun n ds => if ds.length < lim then .ok (.v .non) (μ.set n (some (.lst (ds ++ [d])))) else .stuck
  | _ => .stuck
theorem mtd_append : MtD K rAppend appendG := by
  intro G μ H σ W s ss x vs Q R rs rss p
  unfold appendG at p
  match ss, vs, rss with
  | [.v d], [y], .cons ry .nil =>
    obtain ⟨n, ds, a, xs, rfl, ea, h1, r1, p⟩ := lstAt_ok R rs p
    by_cases hl : ds.length < lim
    · rw [if_pos hl] at p
      exact ⟨a, xs, y, rfl, rfl, h1, by rw [← r1.length, sizeLine_lim]; exact hl, Post.putL R p ea (r1.append (.cons ry .nil)) .non⟩
    · rw [if_neg hl] at p; exact p.elim
def extendG (s : Sl) (ss : List Sl) (μ : Store) : Out Sl := match ss with
  | [t] => lstAt s μ fun n ds => match t.get μ with
    | some (.lst es) => if ds.length + es.length ≤ lim then .ok (.v .non) (μ.set n (some (.lst (ds ++ es)))) else .stuck
    | _ => .stuck
  | _ => .stuck
theorem mtd_extend : MtD K rExtend extendG := by
  intro G μ H σ W s ss x vs Q R rs rss p
  unfold extendG at p
  match ss, vs, rss with
  | [t], [y], .cons ry .nil =>
    obtain ⟨n, ds, a, xs, rfl, ea, h1, r1, p⟩ := lstAt_ok R rs p
    cases e : t.get μ with
    | none => simp only [e] at p; exact p.elim
    | some d =>
      simp only [e] at p
      have rn := R.now ry e
      cases d with
      | lst es =>
        simp only at p
        by_cases hl : ds.length + es.length ≤ lim
        · rw [if_pos hl] at p
          obtain ⟨b, ys, rfl, h2, r2⟩ := rn.lst
          exact ⟨a, b, xs, ys, rfl, rfl, h1, h2, by rw [← r1.length, ← r2.length, sizeLine_lim]; exact hl, Post.putL R p ea (r1.append r2) .non⟩
        · rw [if_neg hl] at p; exact p.elim
      | _ => exact p.elim
def popG (s : Sl) (ss : List Sl) (μ : Store) : Out Sl := match ss with
  | [] => lstAt s μ fun n ds => match ds[ds.length - 1]? with
    | some d => .ok (.v d) (μ.set n (some (.lst ds.dropLast)))
    | none => .stuck
  | _ => .stuck
theorem mtd_pop : MtD K rPop popG := by
  intro G μ H σ W s ss x vs Q R rs rss p
  unfold popG at p
  match ss, vs, rss with
  | [], [], .nil =>
    obtain ⟨n, ds, a, xs, rfl, ea, h1, r1, p⟩ := lstAt_ok R rs p
    cases e : ds[ds.length - 1]? with
    | none => rw [e] at p; exact p.elim
    | some d =>
      rw [e] at p
      obtain ⟨v, ev, rv⟩ := r1.get e
      exact ⟨a, xs, v, rfl, rfl, h1, by rw [← r1.length]; exact ev, Post.putL R p ea r1.dropLast rv⟩
def popAtG (s : Sl) (ss : List Sl) (μ : Store) : Out Sl := match ss with
  | [.v (.int i)] => lstAt s μ fun n ds => match ixN ds.length i with
    | some k => match ds[k]? with
      | some d => if i.natAbs < 2 ^ 62 then .ok (.v d) (μ.set n (some (.lst (ds.eraseIdx k)))) else .stuck
      | none => .stuck
    | none => .stuck
  | _ => .stuck
theorem mtd_popAt : MtD K rPopAt popAtG := by
  intro G μ H σ W s ss x vs Q R rs rss p
  unfold popAtG at p
  match ss, vs, rss with
  | [.v (.int i)], [y], .cons ry .nil =>
    cases ry
    obtain ⟨n, ds, a, xs, rfl, ea, h1, r1, p⟩ := lstAt_ok R rs p
    cases e : ixN ds.length i with
    | none => rw [e] at p; exact p.elim
    | some k =>
      simp only [e] at p
      cases e2 : ds[k]? with
      | none => rw [e2] at p; exact p.elim
      | some d =>
        simp only [e2] at p
        by_cases hl : i.natAbs < 2 ^ 62
        · rw [if_pos hl] at p
          obtain ⟨v, ev, rv⟩ := r1.get e2
          obtain ⟨q1, q2, q3, q4⟩ := ixN_seq e
          exact ⟨a, xs, i, k, v, rfl, rfl, h1, by omega, by omega, by rw [← r1.length]; exact q1, ev, Post.putL R p ea (r1.eraseIdx k) rv⟩
        · rw [if_neg hl] at p; exact p.elim
def reverseG (s : Sl) (ss : List Sl) (μ : Store) : Out Sl := match ss with
  | [] => lstAt s μ fun n ds => .ok (.v .non) (μ.set n (some (.lst ds.reverse)))
  | _ => .stuck
theorem mtd_reverse : MtD K rReverse reverseG := by
  intro G μ H σ W s ss x vs Q R rs rss p
  unfold reverseG at p
  match ss, vs, rss with
  | [], [], .nil =>
    obtain ⟨n, ds, a, xs, rfl, ea, h1, r1, p⟩ := lstAt_ok R rs p
    exact ⟨a, xs, rfl, rfl, h1, Post.putL R p ea r1.reverse .non⟩
def countG (s : Sl) (ss : List Sl) (μ : Store) : Out Sl := match s.get μ, ss with
  | some (.lst ds), [.v (.int i)] => match intsOf ds with
    | some ns => okV (.int (ns.count i : Nat)) μ
    | none => .stuck
  | _, _ => .stuck
theorem mtd_count : MtD K (rCntI K) countG := by
  intro G μ H σ W s ss x vs Q R rs rss p
  unfold countG at p
  cases e : s.get μ with
  | none => simp only [e] at p; exact p.elim
  | some d =>
    have rn := R.now rs e
    simp only [e] at p
    split at p
    · rename_i ds i heq
      cases heq
      cases e2 : intsOf ds with
      | none => rw [e2] at p; exact p.elim
      | some ns =>
        rw [e2] at p
        match vs, rss with
        | [y], .cons ry .nil =>
          cases ry
          obtain ⟨a, xs, rfl, h1, r1⟩ := rn.sql
          rw [intsOf_eq e2] at r1
          rw [r1.ints] at h1
          exact ⟨a, ns, i, rfl, rfl, h1, Post.val R p (.int _)⟩
    · exact p.elim
end
end DL

namespace DL
open PySem PySem.Spec PyProof.Rows L2

/-! ### xs[i] = v, x op= e -/
/-- o[i] = v by contents: what the store is behind it -/
abbrev FSet := Sl → D → D → Store → Option Store
def SetD (K : PySem.W.Frag) (t : TSet) (f : FSet) : Prop := ∀ (G : Gh) (μ : Store) (H : Hp) (s : Sl) (i d : D) (o iv v : V) (Q : Hp → Prop), Rel K G μ H → SlRep K G H s o → Rep K G.F H i iv → Rep K G.F H d v → ∀ μ', f s i d μ = some μ' →
  (∀ H', Ext G H G H' → Rel K G μ' H' → Q H') → t o iv v H Q
def setL : FSet := fun s i d μ => match s, i with
  | .c n, .int k => match (μ[n]?).join with
    | some (.lst ds) => match ixN ds.length k with
      | some j => some (μ.set n (some (.lst (ds.set j d))))
      | none => none
    | _ => none
  | _, _ => none
theorem setd_list {K : PySem.W.Frag} : SetD K rSetL setL := by
  intro G μ H s i d o iv v Q R rs ri rd μ' e q
  unfold setL at e
  split at e
  · rename_i n k
    cases ri
    cases e1 : (μ[n]?).join with
    | none => simp only [e1] at e; cases e
    | some c =>
      simp only [e1] at e
      obtain ⟨a, rfl, ea, ra⟩ := R.cellOf rs e1
      cases ra with
      | @lst ds xs h1 r1 =>
        simp only at e
        cases e2 : ixN ds.length k with
        | none => rw [e2] at e; cases e
        | some j =>
          rw [e2] at e
          cases e
          exact ⟨a, xs, k, j, rfl, rfl, h1, by rw [← r1.length]; exact e2, q _ (Ext.put ea) (R.put ea (.lst upd_same (RepL.up (F := G.F) R ea (r1.set rd j))))⟩
      | _ => cases e
  · cases e
section
variable {X : Cx} {P : PX} {W : WX} {a b c e o i : Expr} {es : List Expr} {st : Stmt} {sts : List Stmt} {fa fb fc fo fi : FE} {ft fu : FT} {fg : FA} {f g : FS} {pos p : Pos}
/-- o[i] = .. as a target -/
def gSubF (fo fi : FE) (t : FSet) : FG := fun s ρ μ => match fo ρ μ with
  | .ok o μ1 => match fi ρ μ1 with
    | .ok (.v i) μ2 => match s.get μ2 with
      | some d => match s with
        | .v _ => match t o i d μ2 with
          | some μ3 => some (ρ, μ3)
          | none => none
        | _ => none
      | none => none
    | _ => none
  | _ => none
theorem dg_sub {t : TSet} {f : FSet} (hs : PSet X t) (hd : SetD X.K t f) (ho : DE X P W o fo) (hi : DE X P W i fi)
    (ha : ∀ v, assign (.Subscript o i pos) X.env v = (do
      let ov ← holding [v] (eval o X.env)
      let iv ← holding [v, ov] (eval i X.env)
      standAt pos
      holding [v, ov, iv] (setItem ov iv v)
      release [v, ov, iv] []) := by intro _; rfl) : DG X P (.Subscript o i pos) (gSubF fo fi f) := (pg_sub ho hi hs ha).to fun v σ H Q h => by
  obtain ⟨G, μ, ρ, s, he, r, h⟩ := h
  unfold gSubF at h
  cases e1 : fo ρ μ with
  | stuck => rw [e1] at h; exact h.elim
  | exc _ _ => rw [e1] at h; exact h.elim
  | ok o1 μ1 =>
    simp only [e1] at h
    refine ⟨G, μ, ρ, he, ?_⟩
    rw [e1]
    intro ov G1 H1 x1 R1 r1
    cases e2 : fi ρ μ1 with
    | stuck => rw [e2] at h; exact h.elim
    | exc _ _ => rw [e2] at h; exact h.elim
    | ok i1 μ2 =>
      simp only [e2] at h
      refine ⟨G1, μ1, ρ, he.step x1 R1, ?_⟩
      rw [e2]
      intro iv G2 H2 x2 R2 r2
      match i1, s, r, r2, h with
      | .v i1, .v d, r, r2, h =>
        have r' := R1.rep x2 (he.rel.rep x1 r)
        simp only [Sl.get] at h
        cases e3 : f o1 i1 d μ2 with
        | none => rw [e3] at h; exact h.elim
        | some μ3 =>
          simp only [e3] at h
          exact hd G2 μ2 H2 o1 i1 d ov iv v _ R2 (R1.sl x2 r1) r2 r' μ3 e3 fun H3 x3 R3 => h _ G2 H3 (x1.trans (x2.trans x3)) R3 (R2.env x3 (R1.env x2 (he.rel.env x1 he.env)))
      | .v i1, .c n, r, r2, h =>
        simp only [Sl.get] at h
        cases e4 : (μ2[n]?).join with
        | none => simp only [e4] at h
        | some d => simp only [e4] at h
      | .v i1, .x _, r, r2, h => exact h.elim
theorem dg_subL (ho : DE X P W o fo) (hi : DE X P W i fi)
    (ha : ∀ v, assign (.Subscript o i pos) X.env v = (do
      let ov ← holding [v] (eval o X.env)
      let iv ← holding [v, ov] (eval i X.env)
      standAt pos
      holding [v, ov, iv] (setItem ov iv v)
      release [v, ov, iv] []) := by intro _; rfl) : DG X P (.Subscript o i pos) (gSubF fo fi setL) := dg_sub set_list setd_list ho hi ha
/-- in place -/
theorem ds_aug (j : Nat) {x : Str} {op : Operator} {ti : TIp} {gg : Sl → Sl → Store → Out Sl} {pos' : Pos} (hN : X.N.Nodup) (ho : PIp X op ti) (hg : OpD X.K ti gg) (ha : DE X P W a fa) (hi : X.N[j]? = some x := by rfl) (hx : Loc X.env.scope x := by first | exact Or.inl rfl | exact Or.inr rfl)
    (hf : X.fn x = true ∨ X.env.scope.names.lookup x = some .local := by first | exact .inl rfl | exact .inr rfl) : DS X P W (.AugAssign (.Name x pos') op a pos) (sAug j fa gg) := (ps_aug hN hi hx ha ho hf).to fun D σ H h => by
  obtain ⟨G, μ, ρ, he, h⟩ := h
  unfold sAug at h
  cases q : ρ[j]? with
  | none => rw [q] at h; exact h.elim
  | some o =>
    cases o with
    | none => rw [q] at h; exact h.elim
    | some s =>
      simp only [q] at h
      obtain ⟨v, e1, r⟩ := he.env.has j s q
      refine ⟨v, e1, G, μ, ρ, he, h.bind he fun t μ1 y G1 H1 x1 R1 r1 h1 => ?_⟩
      have he1 := he.step x1 R1
      refine hg G1 μ1 H1 σ W s t v y _ R1 (he.rel.sl x1 r) r1 (h1.bind he1 fun z μ2 w G2 H2 x2 R2 r2 h2 => ?_)
      exact h2.nx R2 ((he1.rel.env x2 he1.env).set r2 j)
theorem pip_of {op : Operator} {r : R2} (h : OpR X (inplaceOp op) r) : PIp X op r := fun pins s σ H x y v u Q I rx ry q => h pins s σ H x y v u Q I rx ry q
theorem opd_iadd {K : PySem.W.Frag} : OpD K (ipI fun i j => i + j) (g2 fun a b μ => match a, b with
  | .int i, .int j => okV (.int (i + j)) μ
  | _, _ => .stuck) := by
  refine opd fun G μ H σ W a b x y Q R ra rb p => ?_
  split at p
  · rw [ra.int, rb.int]; exact ⟨_, _, rfl, rfl, Post.val R p (.int _)⟩
  · exact p.elim
abbrev iaddG : Sl → Sl → Store → Out Sl := g2 fun a b μ => match a, b with
  | .int i, .int j => okV (.int (i + j)) μ
  | _, _ => .stuck
abbrev isubG : Sl → Sl → Store → Out Sl := g2 fun a b μ => match a, b with
  | .int i, .int j => okV (.int (i - j)) μ
  | _, _ => .stuck
theorem opd_isub {K : PySem.W.Frag} : OpD K (ipI fun i j => i - j) isubG := by
  refine opd fun G μ H σ W a b x y Q R ra rb p => ?_
  split at p
  · rw [ra.int, rb.int]; exact ⟨_, _, rfl, rfl, Post.val R p (.int _)⟩
  · exact p.elim
theorem ds_iadd (j : Nat) {x : Str} {pos' : Pos} (hN : X.N.Nodup) (ha : DE X P W a fa) (hi : X.N[j]? = some x := by rfl) (hx : Loc X.env.scope x := by first | exact Or.inl rfl | exact Or.inr rfl)
    (hf : X.fn x = true ∨ X.env.scope.names.lookup x = some .local := by first | exact .inl rfl | exact .inr rfl) : DS X P W (.AugAssign (.Name x pos') .Add a pos) (sAug j fa iaddG) := ds_aug j hN ip_add opd_iadd ha hi hx hf
theorem ds_isub (j : Nat) {x : Str} {pos' : Pos} (hN : X.N.Nodup) (ha : DE X P W a fa) (hi : X.N[j]? = some x := by rfl) (hx : Loc X.env.scope x := by first | exact Or.inl rfl | exact Or.inr rfl)
    (hf : X.fn x = true ∨ X.env.scope.names.lookup x = some .local := by first | exact .inl rfl | exact .inr rfl) : DS X P W (.AugAssign (.Name x pos') .Sub a pos) (sAug j fa isubG) := ds_aug j hN ip_sub opd_isub ha hi hx hf
end

/-! ### what is walked -/
inductive ItD where
  | vals (ds : List D)
  | cell (n : Nat)
def ItD.step (it : ItD) (i : Nat) (μ : Store) : Option (Option D) := match it with
  | .vals ds => some ds[i]?
  | .cell n => match (μ[n]?).join with
    | some (.lst ds) => some ds[i]?
    | _ => none
def ItOk (K : PySem.W.Frag) (G : Gh) (H : Hp) (it : ItD) (J : It) : Prop := ∀ G' μ' H' i, Ext G H G' H' → Rel K G' μ' H' → match it.step i μ' with
  | none => True
  | some none => J.stop i H'
  | some (some d) => J.go i H' ∧ ∀ x H'', J.yld i H' x H'' → ∃ G'', Ext G' H' G'' H'' ∧ Rel K G'' μ' H'' ∧ Rep K G''.F H'' d x
abbrev FI := Env → Store → Out ItD
def TDI (K : PySem.W.Frag) (P : PX) (W : WX) (f : FI) : TI := fun σ H R => ∃ G μ ρ, Here K P G μ ρ σ H ∧ Post (ItOk K) K W σ G H (f ρ μ) R
abbrev DI (X : Cx) (P : PX) (W : WX) (tg e : Expr) (f : FI) : Prop := PI X tg e (TDI X.K P W f)
theorem _root_.L2.PI.to {X : Cx} {tg e : Expr} {t t' : TI} (h : PI X tg e t) (w : ∀ σ H Q, t' σ H Q → t σ H Q) : PI X tg e t' := ⟨fun pins s σ H Q I q => h.run pins s σ H Q I (w σ H Q q)⟩
theorem _root_.L2.PI.or {X : Cx} {tg e : Expr} {t t' : TI} (h : PI X tg e t) (h' : PI X tg e t') : PI X tg e (fun σ H R => t σ H R ∨ t' σ H R) := ⟨fun pins s σ H Q I q => q.elim (h.run pins s σ H Q I) (h'.run pins s σ H Q I)⟩
section
variable {K : PySem.W.Frag} {G : Gh} {H : Hp} {μ : Store}
theorem Itl.ok {a : Addr} {xs : List V} {ds : List D} (R : Rel K G μ H) (hs : ∀ G' μ' H', Ext G H G' H' → Rel K G' μ' H' → SqL K H' a xs) (r : RepL K G.F H ds xs) : ItOk K G H (.vals ds) (Itl K a) := by
  intro G' μ' H' i x R'
  have r' := R.repL x r
  have s' := hs G' μ' H' x R'
  show match some ds[i]? with
    | none => True
    | some none => _
    | some (some d) => _
  cases e : ds[i]? with
  | none => exact ⟨xs, s', by rw [← r.length]; exact List.getElem?_eq_none_iff.mp e⟩
  | some d =>
    obtain ⟨v, ev, rv⟩ := r'.get e
    refine ⟨⟨xs, v, s', ev⟩, fun y H'' ⟨e1, e2⟩ => ?_⟩
    subst e1
    have e3 := e2 xs s'
    rw [ev] at e3
    cases e3
    exact ⟨G', .refl, R', rv⟩
theorem Itt.ok {a : Addr} {xs : List V} {ds : List D} (R : Rel K G μ H) (hs : TupAt K H a xs) (r : RepL K G.F H ds xs) : ItOk K G H (.vals ds) (Itt K a) := by
  intro G' μ' H' i x R'
  have r' := R.repL x r
  have s' := (tupAt_mono (R.hk x) hs).sq
  show match some ds[i]? with
    | none => True
    | some none => _
    | some (some d) => _
  cases e : ds[i]? with
  | none => exact ⟨xs, s', by rw [← r.length]; exact List.getElem?_eq_none_iff.mp e⟩
  | some d =>
    obtain ⟨v, ev, rv⟩ := r'.get e
    refine ⟨⟨xs, v, s', ev⟩, fun y H'' ⟨e1, e2⟩ => ?_⟩
    subst e1
    have e3 := e2 xs s'
    rw [ev] at e3
    cases e3
    exact ⟨G', .refl, R', rv⟩
theorem Itl.okC {a : Addr} {n : Nat} (R : Rel K G μ H) (ha : G.am[n]? = some (some a)) : ItOk K G H (.cell n) (Itl K a) := by
  intro G' μ' H' i x R'
  unfold ItD.step
  simp only
  cases e : (μ'[n]?).join with
  | none => trivial
  | some d =>
    cases d with
    | lst ds =>
      simp only
      have hs : SlRep K G' H' (.c n) (.ref a) := R.sl x (s := .c n) (v := .ref a) ⟨(List.getElem?_eq_some_iff.mp ha).1, fun b e => by rw [ha] at e; cases e; rfl⟩
      obtain ⟨b, eb, em, ra⟩ := R'.cellOf hs e
      cases eb
      cases ra with
      | @lst _ xs h1 r1 =>
        cases e2 : ds[i]? with
        | none => exact ⟨xs, .of h1, by rw [← r1.length]; exact List.getElem?_eq_none_iff.mp e2⟩
        | some d =>
          obtain ⟨v, ev, rv⟩ := r1.get e2
          refine ⟨⟨xs, v, .of h1, ev⟩, fun y H'' ⟨e1, e3⟩ => ?_⟩
          subst e1
          have e4 := e3 xs (.of h1)
          rw [ev] at e4
          cases e4
          exact ⟨G', .refl, R', rv⟩
    | _ => trivial
end
/-- a row that is walked -/
def fSeq (f : FE) : FI := fun ρ μ => (f ρ μ).bind fun s μ1 => match s with
  | .v (.lst ds) => .ok (.vals ds) μ1
  | .v (.tup ds) => .ok (.vals ds) μ1
  | .v (.fz ds) => .ok (.vals ds) μ1
  | .c n => match (μ1[n]?).join with
    | some (.lst _) => .ok (.cell n) μ1
    | _ => .stuck
  | _ => .stuck
section
variable {X : Cx} {P : PX} {W : WX} {a b c e tg : Expr} {es : List Expr} {fa fb fc : FE} {ft fu : FT} {fg : FA} {f g : FS} {pos p : Pos}
theorem di_seq (ha : DE X P W a fa) : DI X P W tg a (fSeq fa) := ((pi_list ha).or (pi_tup ha)).to fun σ H Rr h => by
  obtain ⟨G, μ, ρ, he, h⟩ := h
  have h' : Post (ItOk X.K) X.K W σ G H ((fa ρ μ).bind fun s μ1 => match s with
    | .v (.lst ds) => .ok (.vals ds) μ1
    | .v (.tup ds) => .ok (.vals ds) μ1
    | .v (.fz ds) => .ok (.vals ds) μ1
    | .c n => match (μ1[n]?).join with
      | some (.lst _) => .ok (.cell n) μ1
      | _ => .stuck
    | _ => .stuck) Rr := h
  by_cases ht : ∃ ds μ1, fa ρ μ = .ok (.v (.tup ds)) μ1
  · refine .inr ⟨G, μ, ρ, he, Post.bindE h' fun s μ1 x G1 H1 x1 R1 r1 h1 e0 => ?_⟩
    obtain ⟨ds, μ2, e⟩ := ht
    rw [e] at e0
    cases e0
    cases r1 with
    | tup h2 r2 => exact ⟨_, rfl, ⟨_, h2.sq⟩, h1 _ G1 H1 .refl R1 (Itt.ok R1 h2 r2)⟩
  · refine .inl ⟨G, μ, ρ, he, Post.bindE h' fun s μ1 x G1 H1 x1 R1 r1 h1 e0 => ?_⟩
    match s, r1, h1, e0 with
    | .v (.lst ds), r1, h1, e0 =>
      cases (show Rep X.K G1.F H1 (.lst ds) x from r1) with
      | lst f h2 r2 => exact ⟨_, rfl, ⟨_, .of h2⟩, h1 _ G1 H1 .refl R1 (Itl.ok R1 (fun G' μ' H' x' R' => .of (R1.hk x' _ _ h2 (.inl f))) r2)⟩
    | .v (.fz ds), r1, h1, e0 =>
      cases (show Rep X.K G1.F H1 (.fz ds) x from r1) with
      | fz h2 r2 => exact ⟨_, rfl, ⟨_, h2.sq⟩, h1 _ G1 H1 .refl R1 (Itl.ok R1 (fun G' μ' H' x' R' => (fzAt_mono (R1.hk x') h2).sq) r2)⟩
    | .v (.tup ds), _, _, e0 => exact absurd ⟨ds, μ1, e0⟩ ht
    | .c n, r1, h1, e0 =>
      cases e : (μ1[n]?).join with
      | none => simp only [e] at h1; exact h1.elim
      | some d =>
        simp only [e] at h1
        obtain ⟨a, rfl, ea, ra⟩ := R1.cellOf r1 e
        cases ra with
        | lst h2 r2 => exact ⟨_, rfl, ⟨_, .of h2⟩, h1 _ G1 H1 .refl R1 (Itl.okC R1 ea)⟩
        | _ => exact h1.elim
/-- range -/
def rangeD (lo : Int) (n : Nat) : List D := (List.range n).map fun i => D.int (lo + (i : Nat))
theorem Itr.ok {K : PySem.W.Frag} {G : Gh} {H : Hp} (lo : Int) (n : Nat) : ItOk K G H (.vals (rangeD lo n)) (Itr lo n) := by
  intro G' μ' H' i x R'
  show match some (rangeD lo n)[i]? with
    | none => True
    | some none => _
    | some (some d) => _
  unfold rangeD
  rw [List.getElem?_map]
  by_cases hi : i < n
  · rw [List.getElem?_range hi]
    exact ⟨hi, fun y H'' ⟨e1, e2⟩ => by subst e1 e2; exact ⟨G', .refl, R', .int _⟩⟩
  · rw [List.getElem?_eq_none (by simpa using hi)]
    exact Nat.le_of_not_lt hi
def fRng1 (f : FA) : FI := fun ρ μ => (f ρ μ).bind fun ss μ1 => match ss with
  | [.v (.int j)] => if j.natAbs < 2 ^ 61 then .ok (.vals (rangeD 0 j.toNat)) μ1 else .stuck
  | _ => .stuck
def fRng2 (f : FA) : FI := fun ρ μ => (f ρ μ).bind fun ss μ1 => match ss with
  | [.v (.int i), .v (.int j)] => if i.natAbs < 2 ^ 61 ∧ j.natAbs < 2 ^ 61 then .ok (.vals (rangeD i (j - i).toNat)) μ1 else .stuck
  | _ => .stuck
theorem di_range1 (hg : Gl X "range") (hm : X.mg "range" = none) (ha : DA X P W [a] fg) (hs : starEach [a] X.env = [(false, eval a X.env)] := by rfl) : DI X P W tg (.Call (.Name "range" p) [a] [] pos) (fRng1 fg) := (pi_range1 hg hm ha.pa hs).to fun σ H Rr h => by
  obtain ⟨G, μ, ρ, he, h⟩ := h
  refine ⟨G, μ, ρ, he, Post.bind h fun ss μ1 vs G1 H1 x1 R1 r1 h1 => ?_⟩
  match ss, vs, r1, h1 with
  | [.v (.int j)], [_], .cons q .nil, h1 =>
    cases q
    by_cases hl : j.natAbs < 2 ^ 61
    · simp only [if_pos hl] at h1
      exact ⟨j, rfl, by omega, by omega, h1 _ G1 H1 .refl R1 (Itr.ok 0 _)⟩
    · simp only [if_neg hl] at h1; exact h1.elim
theorem di_range2 (hg : Gl X "range") (hm : X.mg "range" = none) (ha : DA X P W [a, b] fg) (hs : starEach [a, b] X.env = [(false, eval a X.env), (false, eval b X.env)] := by rfl) (hs2 : starEach [b] X.env = [(false, eval b X.env)] := by rfl) :
    DI X P W tg (.Call (.Name "range" p) [a, b] [] pos) (fRng2 fg) := (pi_range2 hg hm ha.pa hs hs2).to fun σ H Rr h => by
  obtain ⟨G, μ, ρ, he, h⟩ := h
  refine ⟨G, μ, ρ, he, Post.bind h fun ss μ1 vs G1 H1 x1 R1 r1 h1 => ?_⟩
  match ss, vs, r1, h1 with
  | [.v (.int i), .v (.int j)], [_, _], .cons q (.cons q2 .nil), h1 =>
    cases q
    cases q2
    by_cases hl : i.natAbs < 2 ^ 61 ∧ j.natAbs < 2 ^ 61
    · simp only [if_pos hl] at h1
      exact ⟨i, j, rfl, ⟨by omega, by omega, by omega, by omega⟩, h1 _ G1 H1 .refl R1 (Itr.ok i _)⟩
    · simp only [if_neg hl] at h1; exact h1.elim
/-- enumerate -/
def enumD : Nat → List D → List D
  | _, [] => []
  | i, d :: ds => .tp [.int (i : Nat), d] :: enumD (i + 1) ds
theorem enumD_get : ∀ (ds : List D) (k i : Nat), (enumD k ds)[i]? = ds[i]?.map fun d => D.tp [.int ((k + i : Nat) : Int), d]
  | [], _, _ => by simp [enumD]
  | d :: ds, k, 0 => by simp [enumD]
  | d :: ds, k, i + 1 => by
    show (enumD (k + 1) ds)[i]? = _
    rw [enumD_get ds (k + 1) i]
    rw [show k + 1 + i = k + (i + 1) by omega]
    rfl
def fEnum (f : FA) : FI := fun ρ μ => (f ρ μ).bind fun ss μ1 => match ss with
  | [.v (.lst ds)] => .ok (.vals (enumD 0 ds)) μ1
  | _ => .stuck
theorem di_enum {elts : List Expr} {kk : Nat} {tpos : Pos} (hg : Gl X "enumerate") (hm : X.mg "enumerate" = none) (ha : DA X P W [a] fg) (hs : starEach [a] X.env = [(false, eval a X.env)] := by rfl) :
    DI X P W (.Tuple elts kk tpos) (.Call (.Name "enumerate" p) [a] [] pos) (fEnum fg) := (pi_enum hg hm ha.pa hs).to fun σ H Rr h => by
  obtain ⟨G, μ, ρ, he, h⟩ := h
  refine ⟨G, μ, ρ, he, Post.bind h fun ss μ1 vs G1 H1 x1 R1 r1 h1 => ?_⟩
  match ss, vs, r1, h1 with
  | [.v (.lst ds)], [_], .cons q .nil, h1 =>
    cases q with
    | @lst _ a xs f h2 r2 =>
      refine ⟨a, xs, rfl, .of h2, h1 _ G1 H1 .refl R1 fun G' μ' H' i x' R' => ?_⟩
      have h2' := R1.hk x' _ _ h2 (.inl f)
      have r' := R1.repL x' r2
      show match some (enumD 0 ds)[i]? with
        | none => True
        | some none => _
        | some (some d) => _
      rw [enumD_get, Nat.zero_add]
      cases e : ds[i]? with
      | none => exact ⟨xs, .of h2', by rw [← r'.length]; exact List.getElem?_eq_none_iff.mp e⟩
      | some d =>
        obtain ⟨v, ev, rv⟩ := r'.get e
        refine ⟨⟨xs, v, .of h2', ev⟩, fun y H'' ⟨T, z, e1, nT, e2, e3⟩ => ?_⟩
        have e4 := e3 xs (.of h2')
        rw [ev] at e4
        cases e4
        subst e1 e2
        exact ⟨G', Ext.new nT, R'.new nT, .tp upd_same (.cons (.int _) (.cons (R'.rep (Ext.new nT) rv) .nil))⟩
end
end DL

namespace DL
open PySem PySem.Spec PyProof.Rows L2

/-! ### for -/
/-- what a loop goes on with behind a turn -/
def SOut.turn (o : SOut) (k : FS) : SOut := match o with
  | .go .nx ρ μ => k ρ μ
  | .go .ct ρ μ => k ρ μ
  | .go .bk ρ μ => .go .nx ρ μ
  | o => o
def sForL (tg : FG) (body : FS) : List D → FS
  | [], ρ, μ => .go .nx ρ μ
  | d :: ds, ρ, μ => match tg (.v d) ρ μ with
    | none => .stuck
    | some (ρ1, μ1) => (body ρ1 μ1).turn (sForL tg body ds)
def sForC (tg : FG) (body : FS) (n : Nat) : Nat → Nat → FS
  | 0, _, _, _ => .stuck
  | fuel + 1, i, ρ, μ => match (ItD.cell n).step i μ with
    | none => .stuck
    | some none => .go .nx ρ μ
    | some (some d) => match tg (.v d) ρ μ with
      | none => .stuck
      | some (ρ1, μ1) => (body ρ1 μ1).turn (sForC tg body n fuel (i + 1))
def sFor (fi : FI) (tg : FG) (body : FS) : FS := fun ρ μ => (fi ρ μ).st ρ fun it μ1 => match it with
  | .vals ds => sForL tg body ds ρ μ1
  | .cell n => match (μ1[n]?).join with
    | some (.lst ds) => sForC tg body n (ds.length + 1) 0 ρ μ1
    | _ => .stuck
section
variable {K : PySem.W.Frag} {G G1 : Gh} {H H1 : Hp} {μ : Store} {W : WX} {σ : L2.St} {ρ : Env} {D : Ends} {P : PX}
/-- the body of a turn -/
theorem Post1.turn {o : SOut} {k : FS} {N : L2.St → Hp → Prop} (h : Post1 K W G H (o.turn k) D) (hN : ∀ ρ μ σ' G' H', Ext G H G' H' → Rel K G' μ H' → EnvOk K G' H' ρ σ' → Post1 K W G' H' (k ρ μ) D → N σ' H') :
    Post1 K W G H o { D with nx := N, ct := N, bk := D.nx } := by
  cases o with
  | stuck => exact h
  | exc e ρ μ => exact h
  | go c ρ μ =>
    cases c with
    | nx => exact fun σ' G' H' x R e => hN ρ μ σ' G' H' x R e (Post1.shift h x)
    | ct => exact fun σ' G' H' x R e => hN ρ μ σ' G' H' x R e (Post1.shift h x)
    | bk => exact h
    | rt s => exact h
end
section
variable {X : Cx} {P : PX} {W : WX} {a b c e tg iter : Expr} {es : List Expr} {body sts : List Stmt} {fa fb fc : FE} {ft fu : FT} {fi : FI} {hg : FG} {f g : FS} {pos p : Pos}
theorem ds_for (hp : PassesOwn (model X.prog X.w) X.A X.env X.xe) (hc : X.calm = true) (hi : DI X P W tg iter fi) (hgt : DG X P tg hg) (hb : DSs X P W body f) (hs : ∀ x, foldedSetIterable iter X.env x = pure x := by intro _; rfl) : DS X P W (.For tg iter body [] pos) (sFor fi hg f) :=
  (ps_for hp hc hi hgt hb hs).to fun D σ H h => by
    obtain ⟨G, μ, ρ, he, h⟩ := h
    refine ⟨G, μ, ρ, he, h.bind he fun it μ1 J G1 H1 x1 R1 ok h1 => ?_⟩
    have he1 := he.step x1 R1
    cases it with
    | vals ds =>
      refine ⟨fun i m σ H => ∃ G μ ρ, Ext G1 H1 G H ∧ Here X.K P G μ ρ σ H ∧ m = ds.length - i ∧ i ≤ ds.length ∧ Post1 X.K W G H (sForL hg f (ds.drop i) ρ μ) D, ⟨ds.length, G1, μ1, ρ, .refl, he1, by simp, Nat.zero_le _, by simpa using h1⟩, ?_⟩
      rintro i m σ2 H2 ⟨G2, μ2, ρ2, x2, he2, rfl, hi2, h2⟩
      have st := ok G2 μ2 H2 i x2 he2.rel
      have st' : match some ds[i]? with
        | none => True
        | some none => J.stop i H2
        | some (some d) => J.go i H2 ∧ ∀ x H'', J.yld i H2 x H'' → ∃ G'', Ext G2 H2 G'' H'' ∧ Rel X.K G'' μ2 H'' ∧ Rep X.K G''.F H'' d x := st
      by_cases hlt : i < ds.length
      · rw [List.getElem?_eq_getElem hlt] at st'
        obtain ⟨go, yl⟩ := st'
        rw [List.drop_eq_getElem_cons hlt] at h2
        refine .inr ⟨go, fun σ' H' => ∃ G μ ρ, Ext G1 H1 G H' ∧ Here X.K P G μ ρ σ' H' ∧ Post1 X.K W G H' (sForL hg f (ds.drop (i + 1)) ρ μ) D, fun σ' H' ⟨G, μ, ρ, x, he, q⟩ => ⟨ds.length - (i + 1), by omega, G, μ, ρ, x, he, rfl, hlt, q⟩, fun x H'' y => ?_⟩
        obtain ⟨G3, x3, R3, r3⟩ := yl x H'' y
        refine ⟨G3, μ2, ρ2, .v ds[i], he2.step x3 R3, r3, ?_⟩
        have h2' : Post1 X.K W G2 H2 (match hg (.v ds[i]) ρ2 μ2 with
          | none => .stuck
          | some (ρ1, μ1) => (f ρ1 μ1).turn (sForL hg f (ds.drop (i + 1)))) D := h2
        cases e : hg (.v ds[i]) ρ2 μ2 with
        | none => rw [e] at h2'; exact h2'.elim
        | some q =>
          obtain ⟨ρ4, μ4⟩ := q
          simp only [e] at h2'
          intro σ4 G4 H4 x4 R4 e4
          have pex : P G4.ex := by rw [x4.ex, x3.ex]; exact he2.p
          refine ⟨G4, μ4, ρ4, ⟨pex, R4, e4⟩, Post1.turn (Post1.shift h2' (x3.trans x4)) fun ρ5 μ5 σ5 G5 H5 x5 R5 e5 h5 => ?_⟩
          exact ⟨G5, μ5, ρ5, x2.trans (x3.trans (x4.trans x5)), ⟨by rw [x5.ex]; exact pex, R5, e5⟩, h5⟩
      · have e : i = ds.length := by omega
        subst e
        rw [List.getElem?_eq_none (Nat.le_refl _)] at st'
        rw [List.drop_length] at h2
        exact .inl ⟨st', h2.nx he2.rel he2.env⟩
    | cell n =>
      have h1' : Post1 X.K W G1 H1 (match (μ1[n]?).join with
        | some (.lst ds) => sForC hg f n (ds.length + 1) 0 ρ μ1
        | _ => .stuck) D := h1
      cases e0 : (μ1[n]?).join with
      | none => simp only [e0] at h1'; exact h1'.elim
      | some d0 =>
        cases d0 with
        | lst ds =>
          simp only [e0] at h1'
          refine ⟨fun i m σ H => ∃ G μ ρ, Ext G1 H1 G H ∧ Here X.K P G μ ρ σ H ∧ Post1 X.K W G H (sForC hg f n m i ρ μ) D, ⟨ds.length + 1, G1, μ1, ρ, .refl, he1, h1'⟩, ?_⟩
          rintro i m σ2 H2 ⟨G2, μ2, ρ2, x2, he2, h2⟩
          have st := ok G2 μ2 H2 i x2 he2.rel
          cases m with
          | zero => exact h2.elim
          | succ m =>
            have h2' : Post1 X.K W G2 H2 (match (ItD.cell n).step i μ2 with
              | none => .stuck
              | some none => .go .nx ρ2 μ2
              | some (some d) => match hg (.v d) ρ2 μ2 with
                | none => .stuck
                | some (ρ1, μ1) => (f ρ1 μ1).turn (sForC hg f n m (i + 1))) D := h2
            cases e1 : (ItD.cell n).step i μ2 with
            | none => rw [e1] at h2'; exact h2'.elim
            | some o =>
              rw [e1] at st h2'
              cases o with
              | none => exact .inl ⟨st, h2'.nx he2.rel he2.env⟩
              | some d =>
                obtain ⟨go, yl⟩ := st
                refine .inr ⟨go, fun σ' H' => ∃ G μ ρ, Ext G1 H1 G H' ∧ Here X.K P G μ ρ σ' H' ∧ Post1 X.K W G H' (sForC hg f n m (i + 1) ρ μ) D, fun σ' H' ⟨G, μ, ρ, x, he, q⟩ => ⟨m, Nat.lt_succ_self _, G, μ, ρ, x, he, q⟩, fun x H'' y => ?_⟩
                obtain ⟨G3, x3, R3, r3⟩ := yl x H'' y
                refine ⟨G3, μ2, ρ2, .v d, he2.step x3 R3, r3, ?_⟩
                cases e : hg (.v d) ρ2 μ2 with
                | none => simp only [e] at h2'; exact h2'.elim
                | some q =>
                  obtain ⟨ρ4, μ4⟩ := q
                  simp only [e] at h2'
                  intro σ4 G4 H4 x4 R4 e4
                  have pex : P G4.ex := by rw [x4.ex, x3.ex]; exact he2.p
                  refine ⟨G4, μ4, ρ4, ⟨pex, R4, e4⟩, Post1.turn (Post1.shift h2' (x3.trans x4)) fun ρ5 μ5 σ5 G5 H5 x5 R5 e5 h5 => ?_⟩
                  exact ⟨G5, μ5, ρ5, x2.trans (x3.trans (x4.trans x5)), ⟨by rw [x5.ex]; exact pex, R5, e5⟩, h5⟩
        | _ => simp only [e0] at h1'; exact h1'.elim

/-! ### while -/
def sWhN (c : FT) (body : FS) : Nat → FS
  | 0, _, _ => .stuck
  | n + 1, ρ, μ => (c ρ μ).st ρ fun b μ1 => if b = true then (body ρ μ1).turn (sWhN c body n) else .go .nx ρ μ1
/-- n: turns enough -/
theorem ds_while (n : Nat) (hp : PassesOwn (model X.prog X.w) X.A X.env X.xe) (hc : DT X P W c ft) (hb : DSs X P W body f) : DS X P W (.While c body [] pos) (sWhN ft f n) := (ps_while hp hc hb).to fun D σ H h => by
  obtain ⟨G, μ, ρ, he, h⟩ := h
  refine ⟨fun m σ H => ∃ G μ ρ, Here X.K P G μ ρ σ H ∧ Post1 X.K W G H (sWhN ft f m ρ μ) D, ⟨n, G, μ, ρ, he, h⟩, ?_⟩
  rintro m σ2 H2 ⟨G2, μ2, ρ2, he2, h2⟩
  cases m with
  | zero => exact h2.elim
  | succ m =>
    refine ⟨G2, μ2, ρ2, he2, h2.bind he2 fun b μ3 b' G3 H3 x3 R3 r3 h3 => ?_⟩
    subst r3
    cases b with
    | true =>
      rw [if_pos rfl]
      refine ⟨fun σ' H' => ∃ G μ ρ, Here X.K P G μ ρ σ' H' ∧ Post1 X.K W G H' (sWhN ft f m ρ μ) D, fun σ' H' q => ⟨m, Nat.lt_succ_self _, q⟩, G3, μ3, ρ2, he2.step x3 R3, Post1.turn h3 fun ρ5 μ5 σ5 G5 H5 x5 R5 e5 h5 => ?_⟩
      exact ⟨G5, μ5, ρ5, ⟨by rw [x5.ex, x3.ex]; exact he2.p, R5, e5⟩, h5⟩
    | false =>
      rw [if_neg Bool.false_ne_true]
      exact h3.nx R3 (he2.rel.env x3 he2.env)
end

theorem set_same {α : Type} : ∀ {l : List α} {i : Nat} {x : α}, l[i]? = some x → l.set i x = l
  | [], _, _, h => by simp at h
  | a :: l, 0, x, h => by simp at h; rw [h]; rfl
  | a :: l, i + 1, x, h => by
    show a :: l.set i x = a :: l
    rw [set_same (by simpa using h)]
/-! ### a cell is laid for good (a ghost step) -/
def tFreeze (i : Nat) (ρ : Env) (μ : Store) : Option (Env × Store) := match ρ[i]? with
  | some (some (.c n)) => match (μ[n]?).join with
    | some d => some (ρ.set i (some (.v d)), μ.set n none)
    | none => none
  | some (some _) => some (ρ, μ)
  | _ => none
theorem ghost_freeze {K : PySem.W.Frag} (i : Nat) : Ghost K (tFreeze i) := by
  intro G μ ρ σ H R env ρ' μ' e
  unfold tFreeze at e
  cases q : ρ[i]? with
  | none => rw [q] at e; cases e
  | some o =>
    cases o with
    | none => rw [q] at e; cases e
    | some s =>
      cases s with
      | v d => rw [q] at e; cases e; exact ⟨G, .refl, R, env⟩
      | x d => rw [q] at e; cases e; exact ⟨G, .refl, R, env⟩
      | c n =>
        simp only [q] at e
        cases e1 : (μ[n]?).join with
        | none => rw [e1] at e; cases e
        | some d =>
          rw [e1] at e
          cases e
          obtain ⟨v, hv, rs⟩ := env.has i _ q
          obtain ⟨a, rfl, ea, ra⟩ := R.cellOf rs e1
          have nF := (R.at_am (List.mem_of_getElem? ea)).1
          have x : Ext G H { G with F := fun b => G.F b ∨ b = a, am := G.am.set n none } H := by
            refine ⟨fun _ _ h _ => h, fun _ h => .inl h, fun b h => ?_, fun b h => ?_, fun c b hc h => ?_, by show _ ≤ (G.am.set n none).length; rw [List.length_set]; exact Nat.le_refl _, rfl, fun _ o h => ⟨o, h⟩⟩
            · rcases h with h | rfl
              · exact .inl h
              · exact .inr (.inr (List.mem_of_getElem? ea))
            · obtain ⟨c, ec⟩ := mem_am (show some b ∈ G.am.set n none from h)
              by_cases hc : n = c
              · subst hc
                rw [List.getElem?_set_self (List.getElem?_eq_some_iff.mp ea).1] at ec; cases ec
              · rw [List.getElem?_set_ne hc] at ec
                exact .inl (List.mem_of_getElem? ec)
            · have h' : (G.am.set n none)[c]? = some (some b) := h
              by_cases hcn : n = c
              · subst hcn
                rw [List.getElem?_set_self (List.getElem?_eq_some_iff.mp ea).1] at h'; cases h'
              · rw [List.getElem?_set_ne hcn] at h'; exact h'
          have R' : Rel K { G with F := fun b => G.F b ∨ b = a, am := G.am.set n none } (μ.set n none) H := by
            refine ⟨fun b f => ?_, by show (G.am.set n none).length = _; rw [List.length_set, List.length_set]; exact R.len, fun c d' ec => ?_, fun c b ec => ?_, fun c c' b ec ec' => ?_⟩
            · rcases f with f | rfl
              · exact R.dom b f
              · exact ra.mut
            · by_cases hc : n = c
              · subst hc
                have hl : n < μ.length := by rw [← R.len]; exact (List.getElem?_eq_some_iff.mp ea).1
                rw [List.getElem?_set_self hl] at ec; cases ec
              · rw [List.getElem?_set_ne hc] at ec
                obtain ⟨b, eb, nf, rb⟩ := R.cell c d' ec
                refine ⟨b, by show (G.am.set n none)[c]? = _; rw [List.getElem?_set_ne hc]; exact eb, ?_, rb.mono (R.hk x) x.F fun _ h => h⟩
                rintro (f | rfl)
                · exact nf f
                · exact hc (R.inj n c b ea eb)
            · have ec' : (G.am.set n none)[c]? = some (some b) := ec
              by_cases hc : n = c
              · subst hc
                rw [List.getElem?_set_self (List.getElem?_eq_some_iff.mp ea).1] at ec'; cases ec'
              · rw [List.getElem?_set_ne hc] at ec'
                obtain ⟨d', ed⟩ := R.live c b ec'
                exact ⟨d', by rw [List.getElem?_set_ne hc]; exact ed⟩
            · have b1 : G.am[c]? = some (some b) := x.back c b (by have := (List.getElem?_eq_some_iff.mp (show (G.am.set n none)[c]? = _ from ec)).1; rw [List.length_set] at this; exact this) ec
              have b2 : G.am[c']? = some (some b) := x.back c' b (by have := (List.getElem?_eq_some_iff.mp (show (G.am.set n none)[c']? = _ from ec')).1; rw [List.length_set] at this; exact this) ec'
              exact R.inj c c' b b1 b2
          refine ⟨_, x, R', ?_⟩
          have e2 := (R.env x env).set (s := .v d) (v := .ref a) ((ra.mono (R.hk x) x.F fun _ h => h).rep (.inr rfl)) i
          rw [set_same hv] at e2
          exact e2
end DL

namespace DL
open PySem PySem.Spec PyProof.Rows L2

/-! ### comprehensions -/
/-- the target of a comprehension: a name; names that take a tuple, a list apart -/
inductive CT where
  | nm (i : Nat) | tp (is : List Nat)
def setAll : Env → List Nat → List D → Option Env
  | ρ, [], [] => some ρ
  | ρ, i :: is, d :: ds => setAll (ρ.set i (some (.v d))) is ds
  | _, _, _ => none
def CT.put (t : CT) (d : D) (ρ : Env) : Option Env := match t with
  | .nm i => some (ρ.set i (some (.v d)))
  | .tp is => match d with
    | .tup ds => setAll ρ is ds
    | .tp ds => setAll ρ is ds
    | _ => none
def CT.slots : CT → List Nat
  | .nm i => [i]
  | .tp is => is
def wipeE (ρ : Env) : List Nat → Env
  | [] => ρ
  | v :: vs => (wipeE ρ vs).set v none
def cLoop (t : CT) (ft : FT) (fe : FE) (ρ : Env) : List D → Store → List D → Out (List D)
  | [], μ, acc => .ok acc μ
  | d :: ds, μ, acc => match t.put d ρ with
    | none => .stuck
    | some ρ1 => match ft ρ1 μ with
      | .ok true μ1 => match fe ρ1 μ1 with
        | .ok (.v y) μ2 => if acc.length < lim then cLoop t ft fe ρ ds μ2 (acc ++ [y]) else .stuck
        | _ => .stuck
      | .ok false μ1 => cLoop t ft fe ρ ds μ1 acc
      | _ => .stuck
def fComp (nb : Bool) (own : List Nat) (fi : FI) (t : CT) (ft : FT) (fe : FE) : FE := fun ρ μ => (fi ρ μ).bind fun it μ1 => match it with
  | .vals ds => (cLoop t ft fe (wipeE ρ own) ds μ1 []).bind fun acc μ2 => mk nb (.lst acc) μ2
  | _ => .stuck
def fYes : FT := fun _ μ => .ok true μ
/-- the readings of such targets -/
def gNms : List Nat → TGs
  | [] => gNil
  | i :: is => gCons (gName i) (gNms is)
def CT.rd (K : PySem.W.Frag) : CT → TG
  | .nm i => gName i
  | .tp is => gTup K is.length (gNms is)
structure PCT (X : Cx) (tg : Expr) (t : CT) : Prop where
  pg : PG X tg (t.rd X.K)
section
variable {σ : L2.St}
theorem wipe_set : ∀ {vs : List Nat} {σ : L2.St} {i : Nat} {x : Option V}, i ∈ vs → wipe (σ.set i x) vs = wipe σ vs
  | v :: vs, σ, i, x, h => by
    show (wipe (σ.set i x) vs).set v none = (wipe σ vs).set v none
    by_cases hv : i ∈ vs
    · rw [wipe_set hv]
    · have e : i = v := by
        rcases List.mem_cons.mp h with e | e
        · exact e
        · exact absurd e hv
      subst e
      have key : ∀ (vs : List Nat) (σ : L2.St), i ∉ vs → wipe (σ.set i x) vs = (wipe σ vs).set i x := by
        intro vs
        induction vs with
        | nil => intro σ _; rfl
        | cons w vs ih =>
          intro σ hn
          show (wipe (σ.set i x) vs).set w none = ((wipe σ vs).set w none).set i x
          rw [ih σ fun z => hn (List.mem_cons_of_mem _ z), List.set_comm _ _ (fun e => hn (by rw [e]; exact List.mem_cons_self))]
      rw [key vs σ hv, List.set_set]
theorem wipe_wipe (σ : L2.St) : ∀ vs : List Nat, ∀ ws : List Nat, (∀ v ∈ ws, v ∈ vs) → wipe (wipe σ ws) vs = wipe σ vs
  | vs, [], _ => rfl
  | vs, w :: ws, h => by
    show wipe ((wipe σ ws).set w none) vs = _
    rw [wipe_set (h w List.mem_cons_self), wipe_wipe σ vs ws fun v hv => h v (List.mem_cons_of_mem _ hv)]
theorem wipeE_rep {K : PySem.W.Frag} {G : Gh} {H : Hp} {ρ : Env} {σ : L2.St} (h : EnvOk K G H ρ σ) : ∀ vs : List Nat, EnvOk K G H (wipeE ρ vs) (wipe σ vs)
  | [] => h
  | v :: vs => (wipeE_rep h vs).unset v
theorem gNms_to {K : PySem.W.Frag} {G : Gh} {H : Hp} {Q : L2.St → Hp → Prop} : ∀ (is : List Nat) (ds : List D) (xs : List V) (ρ ρ' : Env) (σ : L2.St), RepL K G.F H ds xs → EnvOk K G H ρ σ → setAll ρ is ds = some ρ' →
    (∀ σ', EnvOk K G H ρ' σ' → (∀ vs : List Nat, (∀ i ∈ is, i ∈ vs) → wipe σ' vs = wipe σ vs) → Q σ' H) → gNms is xs σ H Q
  | [], [], [], ρ, ρ', σ, .nil, env, e, q => by cases e; exact ⟨rfl, q σ env fun _ _ => rfl⟩
  | i :: is, d :: ds, x :: xs, ρ, ρ', σ, .cons r rr, env, e, q =>
    ⟨x, xs, rfl, gNms_to is ds xs (ρ.set i (some (.v d))) ρ' (σ.set i (some x)) rr (env.set (s := .v d) r i) e fun σ' env' hw => q σ' env' fun vs hv => by
      rw [hw vs fun j hj => hv j (List.mem_cons_of_mem _ hj), wipe_set (hv i List.mem_cons_self)]⟩
  | [], _ :: _, _, _, _, _, _, _, e, _ => by cases e
  | _ :: _, [], _, _, _, _, _, _, e, _ => by cases e
theorem setAll_len : ∀ {is : List Nat} {ds : List D} {ρ ρ' : Env}, setAll ρ is ds = some ρ' → ds.length = is.length
  | [], [], _, _, _ => rfl
  | i :: is, d :: ds, _, _, e => by rw [List.length_cons, List.length_cons, setAll_len (is := is) (ds := ds) e]
  | [], _ :: _, _, _, e => by cases e
  | _ :: _, [], _, _, e => by cases e
theorem CT.put_to {K : PySem.W.Frag} {G : Gh} {H : Hp} {μ : Store} {Q : L2.St → Hp → Prop} (R : Rel K G μ H) (t : CT) {d : D} {x : V} {ρ ρ' : Env} {σ : L2.St} (r : Rep K G.F H d x) (env : EnvOk K G H ρ σ) (e : t.put d ρ = some ρ')
    (q : ∀ σ', EnvOk K G H ρ' σ' → (∀ vs : List Nat, (∀ i ∈ t.slots, i ∈ vs) → wipe σ' vs = wipe σ vs) → Q σ' H) : t.rd K x σ H Q := by
  cases t with
  | nm i =>
    cases e
    exact q _ (env.set (s := .v d) r i) fun vs hv => wipe_set (hv i (List.mem_singleton.mpr rfl))
  | tp is =>
    cases r with
    | @tup ds a xs h1 r1 =>
      have e' : setAll ρ is ds = some ρ' := e
      exact ⟨a, xs, rfl, h1.sq, by rw [← r1.length]; exact setAll_len e', gNms_to is ds xs ρ ρ' σ r1 env e' q⟩
    | @tp ds a xs h1 r1 =>
      have e' : setAll ρ is ds = some ρ' := e
      exact ⟨a, xs, rfl, .of h1, by rw [← r1.length]; exact setAll_len e', gNms_to is ds xs ρ ρ' σ r1 env e' q⟩
    | _ => cases e
end
section
variable {K : PySem.W.Frag} {G : Gh} {H : Hp} {μ : Store}
/-- an object beside ours is written -/
theorem Rel.side (R : Rel K G μ H) {p : Addr} {o o' : HO} (h : H p = some o) (m : Mut (some o)) (nF : ¬ G.F p) (nA : some p ∉ G.am) : Rel K G μ (upd H p o') where
  dom := fun a f => by
    obtain ⟨u, e, mu⟩ := R.dom a f
    have ne : a ≠ p := fun z => nF (z ▸ f)
    exact ⟨u, by rw [upd_ne ne]; exact e, mu⟩
  len := R.len
  cell := fun c d e => by
    obtain ⟨a, ea, nf, ra⟩ := R.cell c d e
    have ne : a ≠ p := fun z => nA (z ▸ List.mem_of_getElem? ea)
    refine ⟨a, ea, nf, ra.mono (fun b u hb q => ?_) (fun _ f => f) fun u hu => by rw [upd_ne ne]; exact hu⟩
    rw [upd_ne]
    · exact hb
    · rintro rfl
      rcases q with q | q
      · exact nF q
      · rw [h] at hb; cases hb; exact q m
  live := R.live
  inj := R.inj
theorem Rep.side {F : Addr → Prop} {p : Addr} {o o' : HO} (h : H p = some o) (m : Mut (some o)) (nF : ¬ F p) : ∀ b u, H b = some u → (F b ∨ ¬ Mut (some u)) → upd H p o' b = some u := fun b u hb q => by
  rw [upd_ne]
  · exact hb
  · rintro rfl
    rcases q with q | q
    · exact nF q
    · rw [h] at hb; cases hb; exact q m
end
abbrev W0 : WX := fun _ _ _ _ => False
section
variable {K : PySem.W.Frag} {P : PX} {W : WX} {fi : FI} {ft : FT} {fe : FE} {t : CT} {own : List Nat} {nb : Bool}
theorem TD.lc (hs : ∀ i ∈ t.slots, i ∈ own) : ∀ σ H Q, TD K P W (fComp nb own fi t ft fe) σ H Q → tLc (TDI K P W fi) (t.rd K) (TDT K P W0 ft) (TD K P W0 fe) own σ H Q := by
  rintro σ H Q ⟨G, μ, ρ, he, h⟩
  refine ⟨G, μ, ρ, he, Post.bind h fun it μ1 J G1 H1 x1 R1 ok h1 => ?_⟩
  cases it with
  | cell n => exact h1.elim
  | vals ds =>
    intro p hp
    have he1 := he.step x1 R1
    have h1' : Post (SlRep K) K W σ G1 H1 ((cLoop t ft fe (wipeE ρ own) ds μ1 []).bind fun acc μ2 => mk nb (.lst acc) μ2) Q := h1
    refine ⟨fun i m H => ∃ G μ acc xs, m = ds.length - i ∧ i ≤ ds.length ∧ Ext G1 H1 G H ∧ Rel K G μ H ∧ ¬ G.F p ∧ some p ∉ G.am ∧ H p = some (.lst xs) ∧ RepL K G.F H acc xs ∧ Post (SlRep K) K W σ G1 H1 ((cLoop t ft fe (wipeE ρ own) (ds.drop i) μ acc).bind fun acc μ2 => mk nb (.lst acc) μ2) Q,
      ⟨ds.length, G1, μ1, [], [], by simp, Nat.zero_le _, Ext.new hp, R1.new hp, ?_, ?_, upd_same, .nil, by simpa using h1'⟩, ?_⟩
    · intro f
      obtain ⟨o, e, _⟩ := R1.dom p f
      rw [hp] at e; cases e
    · intro f
      obtain ⟨_, o, e, _⟩ := R1.at_am f
      rw [hp] at e; cases e
    · rintro i m H2 ⟨G2, μ2, acc, xs, rfl, hi2, x2, R2, nF, nA, hD, ra, h2⟩
      have st : match some ds[i]? with
        | none => True
        | some none => J.stop i H2
        | some (some d) => J.go i H2 ∧ ∀ x H'', J.yld i H2 x H'' → ∃ G'', Ext G2 H2 G'' H'' ∧ Rel K G'' μ2 H'' ∧ Rep K G''.F H'' d x := ok G2 μ2 H2 i x2 R2
      by_cases hlt : i < ds.length
      · rw [List.getElem?_eq_getElem hlt] at st
        obtain ⟨go, yl⟩ := st
        rw [List.drop_eq_getElem_cons hlt] at h2
        refine .inr ⟨go, fun H' => ∃ G μ acc xs, Ext G1 H1 G H' ∧ Rel K G μ H' ∧ ¬ G.F p ∧ some p ∉ G.am ∧ H' p = some (.lst xs) ∧ RepL K G.F H' acc xs ∧ Post (SlRep K) K W σ G1 H1 ((cLoop t ft fe (wipeE ρ own) (ds.drop (i + 1)) μ acc).bind fun acc μ2 => mk nb (.lst acc) μ2) Q,
          fun H' ⟨G, μ, acc, xs, q⟩ => ⟨ds.length - (i + 1), by omega, G, μ, acc, xs, rfl, hlt, q⟩, fun x H3 y => ?_⟩
        obtain ⟨G3, x3, R3, r3⟩ := yl x H3 y
        have h2' : Post (SlRep K) K W σ G1 H1 (Out.bind (match t.put ds[i] (wipeE ρ own) with
          | none => .stuck
          | some ρ1 => match ft ρ1 μ2 with
            | .ok true μ1 => match fe ρ1 μ1 with
              | .ok (.v y) μ2 => if acc.length < lim then cLoop t ft fe (wipeE ρ own) (ds.drop (i + 1)) μ2 (acc ++ [y]) else .stuck
              | _ => .stuck
            | .ok false μ1 => cLoop t ft fe (wipeE ρ own) (ds.drop (i + 1)) μ1 acc
            | _ => .stuck) fun acc μ2 => mk nb (.lst acc) μ2) Q := h2
        cases e : t.put ds[i] (wipeE ρ own) with
        | none => rw [e] at h2'; exact h2'.elim
        | some ρ1 =>
          simp only [e] at h2'
          -- what is carried along
          have env1 : EnvOk K G3 H3 (wipeE ρ own) (wipe σ own) := wipeE_rep (R2.env x3 (R1.env x2 he1.env)) own
          have carry : ∀ {G4 : Gh} {H4 : Hp} {μ4 : Store}, Ext G2 H2 G4 H4 → Rel K G4 μ4 H4 → ¬ G4.F p ∧ some p ∉ G4.am ∧ H4 p = some (.lst xs) ∧ RepL K G4.F H4 acc xs := fun {G4 H4 μ4} x4 R4 => by
            refine ⟨fun f => ?_, fun f => ?_, x4.keep p _ hD nA, R2.repL x4 ra⟩
            · rcases x4.newF p f with z | z | z
              · exact nF z
              · rw [hD] at z; cases z
              · exact nA z
            · rcases x4.newA p f with z | z
              · exact nA z
              · rw [hD] at z; cases z
          refine t.put_to R3 r3 env1 e fun σ2 env2 hw => ⟨?_, ?_⟩
          · rw [hw own hs]
            exact wipe_wipe σ own own fun _ h => h
          · refine ⟨G3, μ2, ρ1, ⟨by rw [x3.ex, x2.ex]; exact he1.p, R3, env2⟩, ?_⟩
            cases e1 : ft ρ1 μ2 with
            | stuck => rw [e1] at h2'; exact h2'.elim
            | exc _ _ => rw [e1] at h2'; exact h2'.elim
            | ok b μ3 =>
              intro b' G4 H4 x4 R4 rb
              subst rb
              cases b with
              | false =>
                rw [if_neg Bool.false_ne_true]
                rw [e1] at h2'
                obtain ⟨c1, c2, c3, c4⟩ := carry (x3.trans x4) R4
                exact ⟨G4, μ3, acc, xs, x2.trans (x3.trans x4), R4, c1, c2, c3, c4, h2'⟩
              | true =>
                rw [if_pos rfl]
                simp only [e1] at h2'
                refine ⟨G4, μ3, ρ1, ⟨by rw [x4.ex, x3.ex, x2.ex]; exact he1.p, R4, R3.env x4 env2⟩, ?_⟩
                cases e2 : fe ρ1 μ3 with
                | stuck => rw [e2] at h2'; exact h2'.elim
                | exc _ _ => rw [e2] at h2'; exact h2'.elim
                | ok s μ4 =>
                  rw [e2] at h2'
                  intro y G5 H5 x5 R5 ry
                  match s, ry, h2' with
                  | .v dy, ry, h2' =>
                    by_cases hl : acc.length < lim
                    · simp only [if_pos hl] at h2'
                      obtain ⟨c1, c2, c3, c4⟩ := carry (x3.trans (x4.trans x5)) R5
                      have ne : ∀ {a : Addr} {u : HO}, H1 a = some u → a ≠ p := fun {a u} q z => by rw [z, hp] at q; cases q
                      have x6 := x2.trans (x3.trans (x4.trans x5))
                      refine ⟨xs, c3, by rw [← c4.length, sizeLine_lim]; exact hl, G5, μ4, acc ++ [dy], xs ++ [y], ⟨fun a u q m => by rw [upd_ne (ne q)]; exact x6.keep a u q m, x6.F, x6.newF, x6.newA, x6.back, x6.le, x6.ex, fun a u q => by rw [upd_ne (ne q)]; exact x6.kept a u q⟩,
                        R5.side c3 trivial c1 c2, c1, c2, upd_same, ?_, h2'⟩
                      exact (c4.append (.cons ry .nil)).mono (Rep.side c3 trivial c1) fun _ f => f
                    · simp only [if_neg hl] at h2'; exact h2'.elim
                  | .c _, _, h2' => exact h2'.elim
                  | .x _, _, h2' => exact h2'.elim
      · have e : i = ds.length := by omega
        subst e
        rw [List.getElem?_eq_none (Nat.le_refl _)] at st
        rw [List.drop_length] at h2
        refine .inl ⟨st, ?_⟩
        have h2' : Post (SlRep K) K W σ G1 H1 (mk nb (.lst acc) μ2) Q := h2
        have np : H1 p = none := hp
        cases nb with
        | true =>
          refine h2' (.ref p) (G2.push p) H2 ⟨x2.keep, x2.F, x2.newF, fun a m => ?_, fun c a hc q => ?_, ?_, x2.ex, x2.kept⟩ ?_ ⟨?_, fun a q => ?_⟩
          · rcases List.mem_append.mp (show some a ∈ G2.am ++ [some p] from m) with m | m
            · exact x2.newA a m
            · have e : a = p := by simpa using m
              rw [e]; exact .inr np
          · have q' : (G2.am ++ [some p])[c]? = some (some a) := q
            rw [List.getElem?_append_left (Nat.lt_of_lt_of_le hc x2.le)] at q'
            exact x2.back c a hc q'
          · show G1.am.length ≤ (G2.am ++ [some p]).length
            rw [List.length_append]
            exact Nat.le_trans x2.le (Nat.le_add_right _ _)
          · refine ⟨R2.dom, by show (G2.am ++ [some p]).length = _; simp [R2.len], fun c d' ec => ?_, fun c a ec => ?_, fun c c' a ec ec' => ?_⟩
            · by_cases hc : c < μ2.length
              · rw [List.getElem?_append_left hc] at ec
                obtain ⟨a, ea, nf, rr⟩ := R2.cell c d' ec
                refine ⟨a, ?_, nf, rr⟩
                show (G2.am ++ [some p])[c]? = _
                rw [List.getElem?_append_left (by rw [R2.len]; exact hc)]
                exact ea
              · have hc' : c = μ2.length := by
                  have := (List.getElem?_eq_some_iff.mp ec).1
                  simp at this
                  omega
                subst hc'
                rw [List.getElem?_append_right (Nat.le_refl _), Nat.sub_self] at ec
                have e' : D.lst acc = d' := by simpa using ec
                subst e'
                refine ⟨p, ?_, nF, .lst hD ra⟩
                show (G2.am ++ [some p])[μ2.length]? = _
                rw [List.getElem?_append_right (by rw [R2.len]; exact Nat.le_refl _), R2.len, Nat.sub_self]
                rfl
            · have e' : (G2.am ++ [some p])[c]? = some (some a) := ec
              by_cases hc : c < G2.am.length
              · rw [List.getElem?_append_left hc] at e'
                obtain ⟨d', ed⟩ := R2.live c a e'
                exact ⟨d', by rw [List.getElem?_append_left (by rw [← R2.len]; exact hc)]; exact ed⟩
              · have hc' : c = μ2.length := by
                  have h1 := (List.getElem?_eq_some_iff.mp e').1
                  have h2 := R2.len
                  rw [List.length_append, List.length_singleton] at h1
                  omega
                subst hc'
                exact ⟨.lst acc, by simp⟩
            · have h1 : (G2.am ++ [some p])[c]? = some (some a) := ec
              have h2 : (G2.am ++ [some p])[c']? = some (some a) := ec'
              by_cases hc : c < G2.am.length <;> by_cases hc' : c' < G2.am.length
              · rw [List.getElem?_append_left hc] at h1
                rw [List.getElem?_append_left hc'] at h2
                exact R2.inj c c' a h1 h2
              · rw [List.getElem?_append_left hc] at h1
                rw [List.getElem?_append_right (by omega)] at h2
                have h3 := List.mem_of_getElem? h2
                have ep : a = p := by simpa using h3
                exact absurd (ep ▸ List.mem_of_getElem? h1) nA
              · rw [List.getElem?_append_left hc'] at h2
                rw [List.getElem?_append_right (by omega)] at h1
                have h3 := List.mem_of_getElem? h1
                have ep : a = p := by simpa using h3
                exact absurd (ep ▸ List.mem_of_getElem? h2) nA
              · have l1 := (List.getElem?_eq_some_iff.mp h1).1
                have l2 := (List.getElem?_eq_some_iff.mp h2).1
                simp at l1 l2
                omega
          · show μ2.length < (G2.am ++ [some p]).length
            simp [R2.len]
          · have e' : (G2.am ++ [some p])[μ2.length]? = some (some a) := q
            rw [← R2.len] at e'
            have e2 : p = a := by simpa using e'
            rw [e2]
        | false =>
          have xx : Ext G1 H1 (G2.add p) H2 := ⟨x2.keep, fun a f => .inl (x2.F a f), fun a f => by
            rcases f with f | rfl
            · exact x2.newF a f
            · exact .inr (.inl np), x2.newA, x2.back, x2.le, x2.ex, x2.kept⟩
          have sub : ∀ a, G2.F a → (G2.add p).F a := fun a f => .inl f
          refine h2' (.ref p) (G2.add p) H2 xx ⟨fun a f => ?_, R2.len, fun c d' ec => ?_, R2.live, R2.inj⟩ (Rep.lst (.inr rfl) hD (ra.mono (fun _ _ h _ => h) sub))
          · rcases f with f | rfl
            · exact R2.dom a f
            · exact ⟨_, hD, trivial⟩
          · obtain ⟨a, ea, nf, rr⟩ := R2.cell c d' ec
            refine ⟨a, ea, ?_, rr.mono (fun _ _ h _ => h) sub fun _ h => h⟩
            rintro (f | rfl)
            · exact nf f
            · exact nA (List.mem_of_getElem? ea)
end
section
variable {X : Cx} {P : PX} {W : WX} {elt tg iter : Expr} {ifs : List Expr} {scope : Scope} {own : List (Str × Nat)} {pos spos py : Pos} {fi : FI} {ft : FT} {fe : FE} {t : CT}
abbrev DTs (X : Cx) (P : PX) (W : WX) (ifs : List Expr) (f : FT) : Prop := PTs X ifs (TDT X.K P W f)
theorem dts_nil : DTs X P W [] fYes := ⟨fun pins s σ H Q I h => pts_nil.run pins s σ H Q I (by
  obtain ⟨G, μ, ρ, he, h⟩ := h
  exact h true G H .refl he.rel rfl)⟩
theorem dts_one {c : Expr} (h : DT X P W c ft) : DTs X P W [c] ft := pts_one h
theorem de_lc (nb : Bool) (hc : X.calm = true) (hN : X.N.Nodup) (hi : DI X P W tg iter fi) (ok : BlkOk X.N X.env.scope scope own)
    (hg : ∀ (s : Shared) (H : Hp) (C : Addr) (cl : List (Str × Addr)) (fp : List Addr), PCT (X.blk s H scope (compEnvC scope cl C X.env) fp) tg t)
    (ht : ∀ (s : Shared) (H : Hp) (C : Addr) (cl : List (Str × Addr)) (fp : List Addr), DTs (X.blk s H scope (compEnvC scope cl C X.env) fp) P W0 ifs ft)
    (he : ∀ (s : Shared) (H : Hp) (C : Addr) (cl : List (Str × Addr)) (fp : List Addr), DE (X.blk s H scope (compEnvC scope cl C X.env) fp) P W0 elt fe)
    (hsl : ∀ i ∈ t.slots, i ∈ own.map (·.2) := by decide)
    (hs : ∀ x, foldedSetIterable iter X.env x = pure x := by intro _; rfl) : DE X P W (.ListComp elt [{ target := tg, iter := iter, ifs := ifs, is_async := 0 }] scope pos) (fComp nb (own.map (·.2)) fi t ft fe) :=
  (pe_lc hc hN hi ok (fun s H C cl fp => (hg s H C cl fp).pg) ht he hs).to (TD.lc hsl)
theorem ds_setLc (nb : Bool) (i : Nat) {y : Str} (hc : X.calm = true) (hN : X.N.Nodup) (hsw : swapsWith (.ListComp elt [{ target := tg, iter := iter, ifs := ifs, is_async := 0 }] scope pos) (some (.Name y py)) spos.line X.env = pure true) (hi : DI X P W tg iter fi) (ok : BlkOk X.N X.env.scope scope own)
    (hg : ∀ (s : Shared) (H : Hp) (C : Addr) (cl : List (Str × Addr)) (fp : List Addr), PCT (X.blk s H scope (compEnvC scope cl C X.env) fp) tg t)
    (ht : ∀ (s : Shared) (H : Hp) (C : Addr) (cl : List (Str × Addr)) (fp : List Addr), DTs (X.blk s H scope (compEnvC scope cl C X.env) fp) P W0 ifs ft)
    (he : ∀ (s : Shared) (H : Hp) (C : Addr) (cl : List (Str × Addr)) (fp : List Addr), DE (X.blk s H scope (compEnvC scope cl C X.env) fp) P W0 elt fe)
    (hsl : ∀ i ∈ t.slots, i ∈ own.map (·.2) := by decide) (hy : X.N[i]? = some y := by rfl) (hyl : X.env.scope.names.lookup y = some .local := by rfl)
    (hs : ∀ x, foldedSetIterable iter X.env x = pure x := by intro _; rfl) : DS X P W (.Assign [.Name y py] (.ListComp elt [{ target := tg, iter := iter, ifs := ifs, is_async := 0 }] scope pos) spos) (sAsg (fComp nb (own.map (·.2)) fi t ft fe) (gNm i)) :=
  (ps_setLc hc hN hy hyl hsw hi ok (fun s H C cl fp => (hg s H C cl fp).pg) ht he hs).to fun D σ H h => TD.lc hsl σ H _ (by
    obtain ⟨G, μ, ρ, he, h⟩ := h
    exact ⟨G, μ, ρ, he, h.bind he fun s μ1 x G1 H1 x1 R1 r1 h1 => h1.nx R1 ((he.rel.env x1 he.env).set r1 i)⟩)
end
/-- a comprehension's target: one name -/
theorem pct_nm {X : Cx} {x : Str} {pos : Pos} (i : Nat) (hN : X.N.Nodup) (hi : X.N[i]? = some x) (hx : Loc X.env.scope x) (hf : X.fn x = true ∨ X.env.scope.names.lookup x = some .local) : PCT X (.Name x pos) (.nm i) := ⟨pg_name hN hi hx hf⟩
theorem pct_tp {X : Cx} {es : List Expr} {k : Nat} {pos : Pos} (is : List Nat) (hc : X.calm = true) (h : PGs X es (gNms is)) (hn : (assignEach es X.env).length = is.length) (hst : (assignEach es X.env).findIdx? (·.1) = none) : PCT X (.Tuple es k pos) (.tp is) := ⟨pg_tup hc h hn hst⟩
end DL

namespace DL
open PySem PySem.Spec PyProof.Rows L2

/-! ### a def by its body -/
inductive PO where
  | stuck | ok (d : D) | exc (e : Exc)
def runS : SOut → Out Sl
  | .go (.rt s) _ μ => .ok s μ
  | .go .nx _ μ => .ok (.v .non) μ
  | .exc e _ μ => .exc e μ
  | _ => .stuck
def startE (n : Nat) (ss : List Sl) : Env := ss.map some ++ List.replicate (n - ss.length) none
def pureOf (n : Nat) (b : FS) (ds : List D) : PO := match runS (b (startE n (ds.map .v)) []) with
  | .ok (.v d) _ => .ok d
  | .exc e _ => .exc e
  | _ => .stuck
def getAll (μ : Store) : List Sl → Option (List D)
  | [] => some []
  | s :: ss => match s.get μ with
    | some d => (getAll μ ss).map (d :: ·)
    | none => none
mutual
/-- nothing that could change hangs on it -/
def D.nol : D → Bool
  | .non => true
  | .bl _ => true
  | .int _ => true
  | .str _ => true
  | .ty _ => true
  | .glo _ => true
  | .tup ds => D.nolL ds
  | .tp ds => D.nolL ds
  | _ => false
def D.nolL : List D → Bool
  | [] => true
  | d :: ds => D.nol d && D.nolL ds
end
def lift (ψ : List D → PO) : List Sl → Store → Out Sl := fun ss μ => match getAll μ ss with
  | none => .stuck
  | some ds => match ψ ds with
    | .stuck => .stuck
    | .ok r => if (allVB ss || r.nol) = true then .ok (.v r) μ else .stuck
    | .exc e => if (allVB ss || D.nolL e.vs) = true then .exc e μ else .stuck
section
variable {K : PySem.W.Frag} {F F' : Addr → Prop} {H : Hp}
mutual
theorem Rep.nol : ∀ {d : D} {v : V}, Rep K F H d v → d.nol = true → Rep K F' H d v
  | _, _, .non, _ => .non
  | _, _, .bl b, _ => .bl b
  | _, _, .int i, _ => .int i
  | _, _, .str x, _ => .str x
  | _, _, .ty n, _ => .ty n
  | _, _, .glo x, _ => .glo x
  | _, _, .lst f h r, e => by simp [D.nol] at e
  | _, _, .fz h r, e => by simp [D.nol] at e
  | _, _, .tup h r, e => .tup h (RepL.nol r (by simpa only [D.nol] using e))
  | _, _, .tp h r, e => .tp h (RepL.nol r (by simpa only [D.nol] using e))
  | _, _, .dK f h r, e => by simp [D.nol] at e
  | _, _, .dT f h q r, e => by simp [D.nol] at e
  | _, _, .ins f h r, e => by simp [D.nol] at e
theorem RepL.nol : ∀ {ds : List D} {vs : List V}, RepL K F H ds vs → D.nolL ds = true → RepL K F' H ds vs
  | _, _, .nil, _ => .nil
  | _, _, .cons h t, e => by
    simp only [D.nolL, Bool.and_eq_true] at e
    exact .cons (Rep.nol h e.1) (RepL.nol t e.2)
end
end
theorem start_env {K : PySem.W.Frag} {G : Gh} {H : Hp} : ∀ (n : Nat) {ss : List Sl} {vs : List V}, SlReps K G H ss vs → EnvOk K G H (startE n ss) (vs.map some ++ List.replicate (n - vs.length) none) := by
  intro n ss vs r
  refine ⟨by unfold startE; simp [r.length], fun i s e => ?_⟩
  unfold startE at e
  by_cases hi : i < ss.length
  · rw [List.getElem?_append_left (by simpa using hi), List.getElem?_map] at e
    cases q : ss[i]? with
    | none => rw [q] at e; cases e
    | some s' =>
      rw [q] at e
      cases e
      have key : ∀ {ss : List Sl} {vs : List V} {i : Nat}, SlReps K G H ss vs → ss[i]? = some s → ∃ v, vs[i]? = some v ∧ SlRep K G H s v := by
        intro ss vs i r
        induction r generalizing i with
        | nil => intro e; simp at e
        | cons h t ih =>
          intro e
          cases i with
          | zero => simp at e; subst e; exact ⟨_, rfl, h⟩
          | succ i =>
            obtain ⟨v, e1, r1⟩ := ih (by simpa using e)
            exact ⟨v, by simpa using e1, r1⟩
      obtain ⟨v, e1, r1⟩ := key r q
      refine ⟨v, ?_, r1⟩
      rw [List.getElem?_append_left (by simpa using (List.getElem?_eq_some_iff.mp e1).1), List.getElem?_map, e1]
      rfl
  · rw [List.getElem?_append_right (by simpa using hi), List.getElem?_replicate] at e
    split at e <;> cases e
theorem vReps {K : PySem.W.Frag} {G : Gh} {H : Hp} : ∀ {ds : List D} {vs : List V}, RepL K G.F H ds vs → SlReps K G H (ds.map .v) vs
  | _, _, .nil => .nil
  | _, _, .cons h t => .cons h (vReps t)
theorem getAll_rep {K : PySem.W.Frag} {G : Gh} {H : Hp} {μ : Store} (R : Rel K G μ H) {F0 : Addr → Prop} (h1 : ∀ a, G.F a → F0 a) : ∀ {ss : List Sl} {vs : List V} {ds : List D}, (∀ (n : Nat) a, Sl.c n ∈ ss → G.am[n]? = some (some a) → F0 a) → SlReps K G H ss vs → getAll μ ss = some ds → RepL K F0 H ds vs
  | [], _, _, _, .nil, e => by cases e; exact .nil
  | s :: ss, _, _, hc, .cons r rr, e => by
    have e' : (match s.get μ with
      | some d => (getAll μ ss).map (d :: ·)
      | none => none) = some _ := e
    cases q : s.get μ with
    | none => rw [q] at e'; cases e'
    | some d =>
      simp only [q] at e'
      cases q2 : getAll μ ss with
      | none => rw [q2] at e'; cases e'
      | some ds =>
        rw [q2] at e'
        cases e'
        refine .cons ?_ (getAll_rep R h1 (fun n a m => hc n a (List.mem_cons_of_mem _ m)) rr q2)
        cases s with
        | v d' => cases q; exact Rep.mono (fun _ _ h _ => h) h1 r
        | x _ => cases q
        | c n =>
          obtain ⟨a, rfl, ea, ra⟩ := R.cellOf r q
          exact (ra.mono (fun _ _ h _ => h) h1 fun _ h => h).rep (hc n a List.mem_cons_self ea)
theorem allVB_no : ∀ {ss : List Sl}, allVB ss = true → ∀ n : Nat, Sl.c n ∉ ss
  | [], _, _, h => by cases h
  | .v _ :: ss, e, n, h => by
    rcases List.mem_cons.mp h with h | h
    · cases h
    · exact allVB_no (ss := ss) e n h
  | .c _ :: _, e, _, _ => by cases e
  | .x _ :: _, e, _, _ => by cases e
abbrev PT1 : PX := fun _ => True
section
variable {P : Program} {w : World} {K : PySem.W.Frag} {mg : Str → Option Value} {base : Heap} {x qual : Str} {params : Arguments} {body : List Stmt} {scope : Scope} {f : Addr} {fd : FuncData} {N ps : List Str} {k : Nat}
/-- what a body's rules are to show -/
abbrev BodyD (P : Program) (w : World) (K : PySem.W.Frag) (mg : Str → Option Value) (base : Heap) (N : List Str) (qual : Str) (scope : Scope) (f : Addr) (body : List Stmt) (k : Nat) (b : FS) : Prop :=
  ∀ (cdv : Value) (A : Around) (outer : List PySem.Env) (s : Shared) (H : Hp) (E : XK), Room k (A.deeper (envOfC qual scope s.heap.objs.size f cdv)) → DSs (cxOf (L2.CX P w) P w K mg base N qual scope f cdv A outer s H E) PT1 (fun c d _ H => E c d H) body b
theorem fn_gen (F : FunD K x qual params body scope [] [] f fd) (S : FnScope N ps scope) {b : FS} (hb : BodyD P w K mg base N qual scope f body k b) :
    FnOk P w K mg base (L2.CX P w) (k + 1) f fd ps (spG K ps.length fun ss μ => runS (b (startE N.length ss) μ)) := by
  refine F.ok S (fun vs H Q E h => h.1) fun cdv A outer s H vs Q E hr h => ⟨_, hb cdv A outer s H E hr, ?_⟩
  obtain ⟨hl, G, μ, ss, R, rs, p⟩ := h
  replace p : Post (SlRep K) K (fun c d _ H => E c d H) [] G H (runS (b (startE N.length ss) μ)) Q := p
  refine ⟨G, μ, startE N.length ss, ⟨trivial, R, start_env _ rs⟩, ?_⟩
  cases q : b (startE N.length ss) μ with
  | stuck => rw [q] at p; exact p
  | exc e ρ μ' => rw [q] at p; exact fun d σ' G' H' x R' _ ex => p d G' H' x R' ex
  | go c ρ μ' =>
    rw [q] at p
    cases c with
    | nx => exact fun σ' G' H' x R' _ => p .non G' H' x R' .non
    | rt s => exact fun σ' G' H' x R' _ v r => p v G' H' x R' r
    | bk => exact p.elim
    | ct => exact p.elim
/-- .. that hands back a plain value: its own cells are forgotten -/
def runC (n : Nat) (o : SOut) : Out Sl := match runS o with
  | .ok (.v d) μ => .ok (.v d) (μ.take n)
  | .exc e μ => .exc e (μ.take n)
  | _ => .stuck
theorem Rel.cut {G G' : Gh} {H H' : Hp} {μ : Store} (x : Ext G H G' H') (R : Rel K G' μ H') : Ext G H { G' with am := G'.am.take G.am.length } H' ∧ Rel K { G' with am := G'.am.take G.am.length } (μ.take G.am.length) H' := by
  have get : ∀ {c : Nat} {a : Addr}, (G'.am.take G.am.length)[c]? = some (some a) → c < G.am.length ∧ G'.am[c]? = some (some a) := fun {c a} e => by
    have hl := (List.getElem?_eq_some_iff.mp e).1
    rw [List.length_take] at hl
    refine ⟨by omega, ?_⟩
    rw [List.getElem?_take_of_lt (by omega)] at e
    exact e
  refine ⟨⟨x.keep, x.F, x.newF, fun a m => ?_, fun c a hc e => x.back c a hc (get e).2, ?_, x.ex, x.kept⟩, R.dom, ?_, fun c d e => ?_, fun c a e => ?_, fun c c' a e e' => R.inj c c' a (get e).2 (get e').2⟩
  · exact x.newA a (List.mem_of_mem_take m)
  · show G.am.length ≤ (G'.am.take G.am.length).length
    have := x.le
    rw [List.length_take]
    omega
  · show (G'.am.take G.am.length).length = _
    rw [List.length_take, List.length_take, R.len]
  · have hl := (List.getElem?_eq_some_iff.mp e).1
    rw [List.length_take] at hl
    rw [List.getElem?_take_of_lt (by omega)] at e
    obtain ⟨a, ea, nf, ra⟩ := R.cell c d e
    refine ⟨a, ?_, nf, ra⟩
    show (G'.am.take G.am.length)[c]? = _
    rw [List.getElem?_take_of_lt (by omega)]
    exact ea
  · obtain ⟨h1, h2⟩ := get e
    obtain ⟨d, ed⟩ := R.live c a h2
    exact ⟨d, by rw [List.getElem?_take_of_lt h1]; exact ed⟩
theorem fn_cut (F : FunD K x qual params body scope [] [] f fd) (S : FnScope N ps scope) {b : FS} (hb : BodyD P w K mg base N qual scope f body k b) :
    FnOk P w K mg base (L2.CX P w) (k + 1) f fd ps (spG K ps.length fun ss μ => runC μ.length (b (startE N.length ss) μ)) := by
  refine F.ok S (fun vs H Q E h => h.1) fun cdv A outer s H vs Q E hr h => ⟨_, hb cdv A outer s H E hr, ?_⟩
  obtain ⟨hl, G, μ, ss, R, rs, p⟩ := h
  replace p : Post (SlRep K) K (fun c d _ H => E c d H) [] G H (runC μ.length (b (startE N.length ss) μ)) Q := p
  refine ⟨G, μ, startE N.length ss, ⟨trivial, R, start_env _ rs⟩, ?_⟩
  cases q : b (startE N.length ss) μ with
  | stuck => rw [q] at p; exact p
  | exc e ρ μ' =>
    rw [q] at p
    intro d σ' G' H' x R' _ ex
    obtain ⟨x2, R2⟩ := Rel.cut x R'
    rw [R.len] at x2 R2
    exact p d _ H' x2 R2 ex
  | go c ρ μ' =>
    rw [q] at p
    cases c with
    | nx =>
      intro σ' G' H' x R' _
      obtain ⟨x2, R2⟩ := Rel.cut x R'
      rw [R.len] at x2 R2
      exact p .non _ H' x2 R2 .non
    | rt s =>
      intro σ' G' H' x R' _ v r
      cases s with
      | v d =>
        obtain ⟨x2, R2⟩ := Rel.cut x R'
        rw [R.len] at x2 R2
        exact p v _ H' x2 R2 r
      | c _ => exact p.elim
      | x _ => exact p.elim
    | bk => exact p.elim
    | ct => exact p.elim
/-- .. that looks at plain values alone -/
theorem fn_pure (F : FunD K x qual params body scope [] [] f fd) (S : FnScope N ps scope) {b : FS} (hb : BodyD P w K mg base N qual scope f body k b) :
    FnOk P w K mg base (L2.CX P w) (k + 1) f fd ps (spG K ps.length (lift (pureOf N.length b))) := by
  refine F.ok S (fun vs H Q E h => h.1) fun cdv A outer s H vs Q E hr h => ⟨_, hb cdv A outer s H E hr, ?_⟩
  obtain ⟨hl, G, μ, ss, R, rs, p⟩ := h
  unfold lift at p
  cases e0 : getAll μ ss with
  | none => rw [e0] at p; exact p.elim
  | some ds =>
    simp only [e0] at p
    have F0 : ∃ F0 : Addr → Prop, F0 = fun a => G.F a ∨ ∃ n : Nat, Sl.c n ∈ ss ∧ G.am[n]? = some (some a) := ⟨_, rfl⟩
    obtain ⟨F0, hF0⟩ := F0
    have rd : RepL K F0 H ds vs := getAll_rep R (fun a f => by rw [hF0]; exact .inl f) (fun n a m e => by rw [hF0]; exact .inr ⟨n, m, e⟩) rs e0
    have R0 : Rel K ⟨F0, [], none⟩ [] H := ⟨fun a f => by
      rw [hF0] at f
      rcases f with f | ⟨n, _, e⟩
      · exact R.dom a f
      · exact (R.at_am (List.mem_of_getElem? e)).2, rfl, fun c d e => by simp at e, fun c a e => by simp at e, fun c c' a e => by simp at e⟩
    have env0 := start_env N.length (vReps (G := ⟨F0, [], none⟩) rd)
    refine ⟨⟨F0, [], none⟩, [], startE N.length (ds.map .v), ⟨trivial, R0, env0⟩, ?_⟩
    -- back to the caller
    have back : ∀ {G' : Gh} {H' : Hp} {μ' : Store}, Ext ⟨F0, [], none⟩ H G' H' → Rel K G' μ' H' → Ext G H ⟨fun a => G'.F a ∧ some a ∉ G.am, G.am, G.ex⟩ H' ∧ Rel K ⟨fun a => G'.F a ∧ some a ∉ G.am, G.am, G.ex⟩ μ H' ∧ (allVB ss = true → ∀ a, G'.F a → some a ∉ G.am) := by
      intro G' H' μ' x R'
      have kp : ∀ a o, H a = some o → H' a = some o := fun a o h => x.keep a o h (by simp)
      have sub : ∀ a, G.F a → G'.F a ∧ some a ∉ G.am := fun a f => ⟨x.F a (by rw [hF0]; exact .inl f), fun m => (R.at_am m).1 f⟩
      refine ⟨⟨fun a o h _ => kp a o h, sub, fun a f => ?_, fun a m => .inl m, fun _ _ _ e => e, Nat.le_refl _, rfl, x.kept⟩, ⟨fun a f => R'.dom a f.1, R.len, fun c d e => ?_, R.live, R.inj⟩, fun av a f m => ?_⟩
      · rcases x.newF a f.1 with z | z | z
        · rw [hF0] at z
          rcases z with z | ⟨n, _, z⟩
          · exact .inl z
          · exact absurd (List.mem_of_getElem? z) f.2
        · exact .inr (.inl z)
        · simp at z
      · obtain ⟨a, ea, nf, ra⟩ := R.cell c d e
        exact ⟨a, ea, fun z => z.2 (List.mem_of_getElem? ea), ra.mono (fun b o h _ => kp b o h) sub fun o h => kp a o h⟩
      · rcases x.newF a f with z | z | z
        · rw [hF0] at z
          rcases z with z | ⟨n, z, _⟩
          · exact (R.at_am m).1 z
          · exact allVB_no av n z
        · obtain ⟨_, o, e, _⟩ := R.at_am m
          rw [z] at e; cases e
        · simp at z
    have val : ∀ {d : D}, pureOf N.length b ds = .ok d → ∀ G' H' (μ' : Store), Ext ⟨F0, [], none⟩ H G' H' → Rel K G' μ' H' → ∀ v, Rep K G'.F H' d v → Q v H' := by
      intro d e G' H' μ' x R' v r
      obtain ⟨x2, R2, av⟩ := back x R'
      simp only [e] at p
      by_cases hc : (allVB ss || d.nol) = true
      · rw [if_pos hc] at p
        refine p v _ H' x2 R2 ?_
        rcases Bool.or_eq_true_iff.mp hc with z | z
        · exact Rep.mono (fun _ _ h _ => h) (fun a f => ⟨f, av z a f⟩) r
        · exact Rep.nol r z
      · rw [if_neg hc] at p; exact p.elim
    cases q : b (startE N.length (ds.map .v)) [] with
    | stuck =>
      have e : pureOf N.length b ds = .stuck := by unfold pureOf; rw [q]; rfl
      rw [e] at p
      exact p.elim
    | exc e ρ μ' =>
      have e1 : pureOf N.length b ds = .exc e := by unfold pureOf; rw [q]; rfl
      intro d σ' G' H' x R' _ ex
      obtain ⟨x2, R2, av⟩ := back x R'
      simp only [e1] at p
      by_cases hc : (allVB ss || D.nolL e.vs) = true
      · rw [if_pos hc] at p
        refine p d _ H' x2 R2 ?_
        rcases ex with ex | ⟨a, fs, h1, h2, h3, h4⟩
        · exact .inl ex
        · refine .inr ⟨a, fs, h1, h2, h3, ?_⟩
          rcases Bool.or_eq_true_iff.mp hc with z | z
          · exact RepL.mono (fun _ _ h _ => h) (fun a f => ⟨f, av z a f⟩) h4
          · exact RepL.nol h4 z
      · rw [if_neg hc] at p; exact p.elim
    | go c ρ μ' =>
      cases c with
      | nx =>
        have e1 : pureOf N.length b ds = .ok .non := by unfold pureOf; rw [q]; rfl
        exact fun σ' G' H' x R' _ => val e1 G' H' μ' x R' .non .non
      | rt s =>
        cases s with
        | v d =>
          have e1 : pureOf N.length b ds = .ok d := by unfold pureOf; rw [q]; rfl
          exact fun σ' G' H' x R' _ v r => val e1 G' H' μ' x R' v r
        | c n =>
          have e1 : pureOf N.length b ds = .stuck := by unfold pureOf; rw [q]; rfl
          rw [e1] at p
          exact p.elim
        | x n =>
          have e1 : pureOf N.length b ds = .stuck := by unfold pureOf; rw [q]; rfl
          rw [e1] at p
          exact p.elim
      | bk =>
        have e1 : pureOf N.length b ds = .stuck := by unfold pureOf; rw [q]; rfl
        rw [e1] at p
        exact p.elim
      | ct =>
        have e1 : pureOf N.length b ds = .stuck := by unfold pureOf; rw [q]; rfl
        rw [e1] at p
        exact p.elim
end
end DL

namespace DL
open PySem PySem.Spec PyProof.Rows L2

/-! ### exception classes of the text: __init__(self, what): BASE.__init__(self, '..' + what); self.what = what -/
structure ExC (K : PySem.W.Frag) (x : Str) : Prop where
  ox : OexC K (He.ga K x)
  xf : XfC K (He.ga K x)
  noW : PySem.W.findIn K (.ref (He.ga K x)) "what" = some none
  iC : PySem.W.findIn K (.ref (He.ga K x)) "__init__" = some (some (.ref (He.ma K (He.ga K x) "__init__")))
  tI : PySem.W.typeIn K (.ref (He.ma K (He.ga K x) "__init__")) = some (.type "function")
structure ExB (K : PySem.W.Frag) (b : Str) : Prop where
  sp : PySem.W.specialIn K (.ref (He.ga K b)) "__getattribute__" = some (some (.builtin "type.__getattribute__"))
  ty : PySem.W.typeIn K (.ref (He.ga K b)) = some (.type "type")
  rd : PySem.W.readsIn K (He.ga K b) (.type "type") = true
  fc : PySem.W.findCls K (.ref (He.ga K b)) (.type "type") "__init__" = some (.val (.builtin "ValueError.__init__"))
/-- the class object, read off the written part -/
def exObjB (K : PySem.W.Frag) (C : Addr) : Bool := match K.lookup C with
  | some ⟨.type "type", _, .cls cd, sl⟩ => (match cd.mro, sl.toList with
    | .ref C' :: bm, [_, _, _, _, some (.builtin n), _] => C' == C && n == "ValueError.__new__" && !cd.hasDel && cd.hasDict && PySem.HandSPX.refsVE bm
    | _, _ => false)
  | _ => false
theorem exObj_ok {K : PySem.W.Frag} {C : Addr} (q : exObjB K C = true) : ∃ nm q N bs bm sn sub ab col dd k0 k1 k2 k3 k5, K.lookup C = some (excClassObj nm q C N bs bm true sn sub ab col dd k0 k1 k2 k3 k5 "ValueError.__new__") ∧ PySem.HandSPX.refsVE bm = true := by
  unfold exObjB at q
  split at q
  · rename_i dd cd sl ho
    split at q
    · rename_i C' bm k0 k1 k2 k3 n k5 hm hs
      simp only [Bool.and_eq_true, beq_iff_eq, Bool.not_eq_true'] at q
      obtain ⟨⟨⟨⟨rfl, rfl⟩, hdel⟩, hd⟩, hr⟩ := q
      obtain ⟨nm, bs, mro, ns, qn, hdc, sn, sub, ab, col, del⟩ := cd
      dsimp only at hm hdel hd
      subst hm hdel hd
      have hsl : sl = #[k0, k1, k2, k3, some (.builtin "ValueError.__new__"), k5] := by
        obtain ⟨l⟩ := sl
        simp only at hs
        rw [hs]
      subst hsl
      exact ⟨nm, qn, ns, bs, bm, sn, sub, ab, col, dd, k0, k1, k2, k3, k5, ho, hr⟩
    · cases q
  · cases q
def oexB (K : PySem.W.Frag) (C : Addr) : Bool := exObjB K C && (decide (PySem.W.findIn K (.ref C) "__setattr__" = some (some (.builtin "object.__setattr__"))) && (decide (PySem.W.subIn K (.ref C) (.type "BaseException") = some true) && (decide (PySem.W.typeIn K (.ref C) = some (.type "type")) && PySem.W.keepIn K (.ref C))))
theorem oexB_ok {K : PySem.W.Frag} {C : Addr} (h : oexB K C = true) : OexC K C := by
  obtain ⟨h1, h⟩ := Bool.and_eq_true_iff.mp h
  obtain ⟨h2, h⟩ := Bool.and_eq_true_iff.mp h
  obtain ⟨h3, h⟩ := Bool.and_eq_true_iff.mp h
  obtain ⟨h4, h5⟩ := Bool.and_eq_true_iff.mp h
  exact ⟨exObj_ok h1, of_decide_eq_true h2, of_decide_eq_true h3, of_decide_eq_true h4, h5⟩
def exCB (K : PySem.W.Frag) (x : Str) : Bool := oexB K (He.ga K x) && (xfB K (He.ga K x) && (decide (PySem.W.findIn K (.ref (He.ga K x)) "what" = some none) &&
  (decide (PySem.W.findIn K (.ref (He.ga K x)) "__init__" = some (some (.ref (He.ma K (He.ga K x) "__init__")))) && decide (PySem.W.typeIn K (.ref (He.ma K (He.ga K x) "__init__")) = some (.type "function")))))
theorem exCB_ok {K : PySem.W.Frag} {x : Str} (h : exCB K x = true) : ExC K x := by
  obtain ⟨h1, h⟩ := Bool.and_eq_true_iff.mp h
  obtain ⟨h2, h⟩ := Bool.and_eq_true_iff.mp h
  obtain ⟨h3, h⟩ := Bool.and_eq_true_iff.mp h
  obtain ⟨h4, h5⟩ := Bool.and_eq_true_iff.mp h
  exact ⟨oexB_ok h1, xfB_ok h2, of_decide_eq_true h3, of_decide_eq_true h4, of_decide_eq_true h5⟩
def exBB (K : PySem.W.Frag) (b : Str) : Bool := decide (PySem.W.specialIn K (.ref (He.ga K b)) "__getattribute__" = some (some (.builtin "type.__getattribute__"))) && (decide (PySem.W.typeIn K (.ref (He.ga K b)) = some (.type "type")) &&
  (PySem.W.readsIn K (He.ga K b) (.type "type") && (match PySem.W.findCls K (.ref (He.ga K b)) (.type "type") "__init__" with
    | some (.val (.builtin n)) => decide (n = "ValueError.__init__")
    | _ => false)))
theorem exBB_ok {K : PySem.W.Frag} {b : Str} (h : exBB K b = true) : ExB K b := by
  obtain ⟨h1, h⟩ := Bool.and_eq_true_iff.mp h
  obtain ⟨h2, h⟩ := Bool.and_eq_true_iff.mp h
  obtain ⟨h3, h4⟩ := Bool.and_eq_true_iff.mp h
  refine ⟨of_decide_eq_true h1, of_decide_eq_true h2, h3, ?_⟩
  split at h4
  · rename_i n e
    rw [e, of_decide_eq_true h4]
  · cases h4
section
variable {X : Cx} {P : PX} {W : WX} {a b c e o : Expr} {es : List Expr} {fa fb fe : FE} {fg : FA} {pos p p1 p2 : Pos} {ta : TA}
/-- BASE.__init__(self, ..) -/
theorem pe_vinit {x : Str} {pl : Sem Bool} (hg : Gl X x) (hm : X.mg x = some (.ref (He.ga X.K x))) (B : ExB X.K x) (ha : PA X (e :: es) ta) (hdb : (x == ("__debug__" : Str)) = false := by decide)
    (hc : eval (.Call (.Attribute (.Name x p1) "__init__" p2) (e :: es) [] pos) X.env = (do
      let ov ← eval (.Name x p1) X.env
      standAt p2.atName
      let (f, first) ← holding [ov] (getMethod ov "__init__" pl)
      callWith pos f first (backTo pos (starEach (e :: es) X.env)) (backToKw pos (keywordEach [] X.env))) := by rfl)
    (he : starEach (e :: es) X.env = (false, eval e X.env) :: starEach es X.env := by rfl) (hpl : (backTo pos (starEach es X.env)).any (·.1) = false := by rfl) :
    PE X (.Call (.Attribute (.Name x p1) "__init__" p2) (e :: es) [] pos) (tVeI X.K ta) := by
  refine ⟨fun pins s σ H Q I h => ?_⟩
  refine PySem.W.methodCall_KW (ld_glob I hg hm ?_ hdb) hc
  obtain ⟨m, fr⟩ := I.fr
  refine PySem.W.method_of_cls fr I.ok.mod.kin B.sp ?_
  refine PySem.W.cls_val fr I.ok.mod.kin B.ty B.rd B.fc (by decide +kernel) ?_
  show wpAny _ _ (callWith pos (Value.builtin "ValueError.__init__") [] (backTo pos (starEach (e :: es) X.env)) []) _ _ _
  refine PyProof.Rows.callWith_method1 (thn (ha.run pos pins _ σ H _ (I.tok _) h) fun us s1 ⟨vs, H1, I1, r1, a, C, ws, ev, hl, T, ea, q⟩ => ?_) he hpl
  subst ev
  cases r1 with
  | @cons _ u0 _ ur ra rw' =>
    obtain rfl : u0 = Value.ref a := ra
    have hlen : ur.length ≤ sizeLine := by
      rw [← Paired.length rw', sizeLine_eq]
      omega
    exact oinit_ok T I1 ea hlen fun s' J => ⟨.non, H1, J, rfl, q⟩
end
/-- what such an __init__ promises -/
def spI (C : Addr) : Sp := fun vs H Q _ => ∃ a z, vs = [.ref a, .str z] ∧ z.length ≤ 1000000 ∧ H a = some (exo a C none) ∧ ∀ dx, H dx = none → dx ≠ a → Q .non (upd (upd H dx (exd dx [("what", .str z)])) a (exo a C (some dx)))
def tInit (K : PySem.W.Frag) (t : Str) : TS := tSeq (tDrop (tVeI K (tCons (tVar 0) (tCons (tOp (fun x y H Q => ∃ i j, x = .str i ∧ y = .str j ∧ i.length + j.length ≤ sizeLine ∧ Q (.str (i ++ j)) H) (tC (.str t)) (tVar 1)) tNil)))) (tOst K "what" (tVar 0) (tVar 1))
section
variable {P : Program} {w : World} {K : PySem.W.Frag} {mg : Str → Option Value} {base : Heap} {x qual : Str} {params : Arguments} {scope : Scope} {f : Addr} {fd : FuncData} {t : Str} {body : List Stmt}
theorem ok_init (F : FunD K "__init__" qual params body scope [] [] f fd) (S : FnScope ["self", "what"] ["self", "what"] scope) (T : ExC K x) (hl : t.length ≤ 1000)
    (hb : ∀ (cdv : Value) (A : Around) (outer : List PySem.Env) (s : Shared) (H : Hp) (E : XK), PSs (cxOf (L2.CX P w) P w K mg base ["self", "what"] qual scope f cdv A outer s H E) body (tInit K t)) :
    FnOk P w K mg base (L2.CX P w) 1 f fd ["self", "what"] (spI (He.ga K x)) := by
  refine F.ok S (fun vs H Q E h => ?_) (fun cdv A outer s H vs Q E hr h => ⟨_, hb cdv A outer s H E, ?_⟩)
  · obtain ⟨a, z, rfl, _⟩ := h
    rfl
  · obtain ⟨a, z, rfl, hz, ea, q⟩ := h
    refine ⟨_, rfl, _, rfl, t, z, rfl, rfl, by rw [sizeLine_eq]; omega, a, He.ga K x, _, rfl, by show 1 ≤ 1000; decide, T.ox, ea, ?_⟩
    exact ⟨_, rfl, _, rfl, a, He.ga K x, rfl, T.ox, T.noW, .inl ⟨ea, fun dx n ne => q dx n ne⟩⟩
end
/-- raise X('..') -/
def sRaise (x : Str) (f : FA) : FS := fun ρ μ => (f ρ μ).st ρ fun ss μ1 => match ss with
  | [.v (.str z)] => if z.length ≤ 1000000 then .exc ⟨x, ["what"], [.str z]⟩ ρ μ1 else .stuck
  | _ => .stuck
section
variable {X : Cx} {P : PX} {W : WX} {e : Expr} {fg : FA} {pos p pos2 : Pos}
theorem ds_raise {k : Nat} {fd : FuncData} {x : Str} (hc : X.calm = true) (tk : Takes X W) (T : ExC X.K x) (hm : X.mg x = some (.ref (He.ga X.K x))) (hg : Gl X x) (F1 : FnOk X.prog X.w X.K X.mg X.base (L2.CX X.prog X.w) k (He.ma X.K (He.ga X.K x) "__init__") fd ["self", "what"] (spI (He.ga X.K x))) (hr : Room (k + 1) X.A) (hb : Binds X.K fd ["self", "what"] [])
    (ha : DA X P W [e] fg) (hdb : (x == ("__debug__" : Str)) = false := by decide) (he : starEach [e] X.env = (false, eval e X.env) :: starEach [] X.env := by rfl) (hpl : (backTo pos (starEach [] X.env)).any (·.1) = false := by rfl) :
    DS X P W (.Raise (some (.Call (.Name x p) [e] [] pos)) none pos2) (sRaise x fg) :=
  (ps_raise hc tk (pmk_oex T.ox T.iC T.tI F1 hr hb .nil passL hg hm ha.pa hdb he hpl)).to fun D σ H h => by
    obtain ⟨G, μ, ρ, he, h⟩ := h
    refine ⟨G, μ, ρ, he, h.bind he fun ss μ1 vs G1 H1 x1 R1 r1 h1 => ?_⟩
    match ss, vs, r1, h1 with
    | [.v (.str z)], [_], .cons q .nil, h1 =>
      cases q
      by_cases hz : z.length ≤ 1000000
      · simp only [if_pos hz] at h1
        refine ⟨by show 1 ≤ 1000; decide, fun a na => ⟨a, z, rfl, hz, upd_same, fun dx nd ne => ⟨rfl, dx, [("what", .str z)], upd_same, ?_, ?_, ?_⟩⟩⟩
        · rw [upd_ne ne, upd_same]
        · have z2 : upd H1 a (exo a (He.ga X.K x) none) dx = none := nd
          rw [upd_ne ne] at z2
          exact z2
        · have nd1 : H1 dx = none := by
            have z2 : upd H1 a (exo a (He.ga X.K x) none) dx = none := nd
            rw [upd_ne ne] at z2
            exact z2
          have eH : upd (del (upd (upd (upd H1 a (exo a (He.ga X.K x) none)) dx (exd dx [("what", .str z)])) a (exo a (He.ga X.K x) (some dx))) a) dx (.xd [("what", .str z)]) = upd H1 dx (.xd [("what", .str z)]) := by
            funext b
            by_cases hb : b = dx
            · rw [hb, upd_same, upd_same]
            · rw [upd_ne hb, upd_ne hb]
              by_cases hba : b = a
              · rw [hba, del_same, na]
              · rw [del_ne hba, upd_ne hba, upd_ne hb, upd_ne hba]
          rw [eH]
          exact h1 (some dx) σ G1 _ (Ext.new nd1) (R1.new nd1) (R1.env (Ext.new nd1) (he.rel.env x1 he.env)) (.inr ⟨dx, _, rfl, upd_same, rfl, .cons (.str z) .nil⟩)
      · simp only [if_neg hz] at h1
        exact h1.elim
end

/-! ### try: .. except X as n: .. -/
def clrX (ρ : Env) : Env := ρ.map fun o => match o with
  | some (.x _) => none
  | o => o
/-- behind an except suite: its name is gone -/
def SOut.unx (i : Nat) : SOut → SOut
  | .go (.rt (.x _)) _ _ => .stuck
  | .go c ρ μ => .go c (clrX (ρ.set i none)) μ
  | _ => .stuck
def sTry (cs : List (Str × Bool)) (i : Nat) (f g : FS) : FS := fun ρ μ => match f ρ μ with
  | .exc e ρ1 μ1 => match cs.lookup e.cls with
    | some true => (g ((clrX ρ1).set i (some (.x e))) μ1).unx i
    | some false => .exc e ρ1 μ1
    | none => .stuck
  | o => o
/-- .. without a name -/
def sTryN (cs : List (Str × Bool)) (f g : FS) : FS := fun ρ μ => match f ρ μ with
  | .exc e ρ1 μ1 => match cs.lookup e.cls with
    | some true => match g (clrX ρ1) μ1 with
      | .go (.rt (.x _)) _ _ => .stuck
      | .go c ρ μ => .go c (clrX ρ) μ
      | _ => .stuck
    | some false => .exc e ρ1 μ1
    | none => .stuck
  | o => o
theorem clrX_get {ρ : Env} {i : Nat} {s : Sl} (h : (clrX ρ)[i]? = some (some s)) : ρ[i]? = some (some s) ∧ ∀ e, s ≠ .x e := by
  unfold clrX at h
  rw [List.getElem?_map] at h
  cases q : ρ[i]? with
  | none => rw [q] at h; cases h
  | some o =>
    rw [q] at h
    cases o with
    | none => cases h
    | some t =>
      cases t with
      | x e => cases h
      | v d => cases h; exact ⟨rfl, fun e z => by cases z⟩
      | c n => cases h; exact ⟨rfl, fun e z => by cases z⟩
section
variable {K : PySem.W.Frag} {G G1 : Gh} {H H1 : Hp} {μ : Store} {ex' : Option (Addr × Str × Option Addr)}
theorem SlRep.ex {s : Sl} {v : V} (h : SlRep K G H s v) (n : ∀ e, s ≠ .x e) : SlRep K { G with ex := ex' } H s v := by
  cases s with
  | v d => exact h
  | c m => exact h
  | x e => exact absurd rfl (n e)
theorem EnvOk.clr {ρ : Env} {σ : L2.St} (h : EnvOk K G H ρ σ) : EnvOk K { G with ex := ex' } H (clrX ρ) σ := by
  refine ⟨by unfold clrX; rw [List.length_map]; exact h.len, fun i s e => ?_⟩
  obtain ⟨e1, n⟩ := clrX_get e
  obtain ⟨v, e2, r⟩ := h.has i s e1
  exact ⟨v, e2, r.ex n⟩
theorem Rel.ex (R : Rel K G μ H) : Rel K { G with ex := ex' } μ H := ⟨R.dom, R.len, R.cell, R.live, R.inj⟩
theorem Ext.exl {G2 : Gh} {H2 : Hp} (x : Ext G H G1 H1) (y : Ext { G1 with ex := ex' } H1 G2 H2) : Ext G H { G2 with ex := G.ex } H2 := by
  have y' : Ext G1 H1 { G2 with ex := G1.ex } H2 := ⟨y.keep, y.F, y.newF, y.newA, y.back, y.le, rfl, y.kept⟩
  have z := x.trans y'
  exact ⟨z.keep, z.F, z.newF, z.newA, z.back, z.le, rfl, z.kept⟩
theorem ExcAt.ex {e : Exc} {d : Option Addr} (h : ExcAt K G H e d) : ExcAt K { G with ex := ex' } H e d := h
end
theorem PSs.ex {X : Cx} {st : List Stmt} {α : Type} {t : α → TS} (h : ∀ a, PSs X st (t a)) : PSs X st (fun D σ H => ∃ a, t a D σ H) := ⟨fun pins s σ H D I ⟨a, q⟩ => (h a).run pins s σ H D I q⟩
theorem PSs.pre {X : Cx} {st : List Stmt} {p : Prop} {t : TS} (h : p → PSs X st t) : PSs X st (fun D σ H => p ∧ t D σ H) := ⟨fun pins s σ H D I ⟨a, q⟩ => (h a).run pins s σ H D I q⟩
section
variable {X : Cx} {P : PX} {W : WX} {x n : Str} {i : Nat} {body suite : List Stmt} {b₀ : Stmt} {np pos pos' : Pos} {f g : FS} {cs : List (Str × Bool)}
/-- what the suite's rules are to show: X' its context, xn the error's class -/
abbrev SuiteD (cs : List (Str × Bool)) (X : Cx) (st : List Stmt) (g : FS) : Prop := ∀ (a : Addr) (oe : Obj) (xn : Str) (d : Option Addr) (pn : List (Addr × Obj)), cs.lookup xn = some true → Zc (.ref (He.ga X.K xn)) d oe → (∃ vs, oe.data = .fields vs) → DSs (X.suite a ((a, oe) :: pn)) (fun ex => ex = some (a, xn, d)) W0 st g
theorem ds_try (hs : X.stack = X.env :: X.outer) (hf : X.env.frame = some X.env.locals) (hN : X.N.Nodup) (hi : X.N[i]? = some n) (hln : X.env.kindOf n = some .local) (hc : Names X x (.ref (He.ga X.K x))) (tk : Takes X W)
    (hcs : ∀ p ∈ cs, PySem.W.exmOne X.K (.ref (He.ga X.K p.1)) (.ref (He.ga X.K x)) = some p.2)
    (hb : ∀ (W : WX) (pn : List (Addr × Obj)) (xe : Value → Shared → Prop), Takes (X.tr pn xe) W → PassesOwn (model X.prog X.w) X.A X.env xe → DSs (X.tr pn xe) P W body f)
    (hsu : SuiteD cs X (b₀ :: suite) g) : DS X P W (.Try body [.ExceptHandler (some (.Name x np)) (some n) (b₀ :: suite) pos'] [] [] pos) (sTry cs i f g) :=
  (ps_try_as (i := i) (tb := fun W => TDS X.K P W f) (ts := fun a cls d => fun D σ H => ∃ xn, cls = .ref (He.ga X.K xn) ∧ cs.lookup xn = some true ∧ TDS X.K (fun ex => ex = some (a, xn, d)) W0 g D σ H) hs hf hN hi hln hc tk hb
    (fun a oe cls d pn hz hd => PSs.ex fun xn => PSs.pre fun e => PSs.pre fun hl => by subst e; exact hsu a oe xn d pn hl hz hd)).to fun D σ H h => by
    obtain ⟨G, μ, ρ, he, h⟩ := h
    refine ⟨G, μ, ρ, he, ?_⟩
    unfold sTry at h
    cases q : f ρ μ with
    | stuck => rw [q] at h; exact h
    | go c ρ1 μ1 => rw [q] at h; exact h
    | exc e ρ1 μ1 =>
      simp only [q] at h
      intro d σ' G' H' x1 R1 e1 ea
      cases q2 : cs.lookup e.cls with
      | none => rw [q2] at h; exact h.elim
      | some k =>
        have hm := hcs (e.cls, k) (PySem.mem_of_lookup q2)
        cases k with
        | false =>
          rw [q2] at h
          exact ⟨false, hm, fun z => by (cases z), fun _ => h d σ' G' H' x1 R1 e1 ea⟩
        | true =>
          simp only [q2] at h
          refine ⟨true, hm, fun _ a na => ?_, fun z => by (cases z)⟩
          refine ⟨e.cls, rfl, q2, { G' with ex := some (a, e.cls, d) }, μ1, _, ⟨rfl, R1.ex, (EnvOk.clr e1).set (s := .x e) ⟨a, d, rfl, rfl, ea⟩ i⟩, ?_⟩
          cases q3 : g ((clrX ρ1).set i (some (.x e))) μ1 with
          | stuck => rw [q3] at h; exact h.elim
          | exc _ _ _ => rw [q3] at h; exact h.elim
          | go c ρ3 μ3 =>
            rw [q3] at h
            intro σ3 G3 H3 x3 R3 e3
            have x4 := x1.exl x3
            cases c with
            | nx => exact h _ _ H3 x4 R3.ex ((e3.unset i).clr)
            | bk => exact h _ _ H3 x4 R3.ex ((e3.unset i).clr)
            | ct => exact h _ _ H3 x4 R3.ex ((e3.unset i).clr)
            | rt s =>
              cases s with
              | x _ => exact h.elim
              | v d => exact fun v r => h _ _ H3 x4 R3.ex ((e3.unset i).clr) v r
              | c m => exact fun v r => h _ _ H3 x4 R3.ex ((e3.unset i).clr) v r
theorem ds_tryN (hs : X.stack = X.env :: X.outer) (hf : X.env.frame = some X.env.locals) (hc : Names X x (.ref (He.ga X.K x))) (tk : Takes X W)
    (hcs : ∀ p ∈ cs, PySem.W.exmOne X.K (.ref (He.ga X.K p.1)) (.ref (He.ga X.K x)) = some p.2)
    (hb : ∀ (W : WX) (pn : List (Addr × Obj)) (xe : Value → Shared → Prop), Takes (X.tr pn xe) W → PassesOwn (model X.prog X.w) X.A X.env xe → DSs (X.tr pn xe) P W body f)
    (hsu : SuiteD cs X (b₀ :: suite) g) : DS X P W (.Try body [.ExceptHandler (some (.Name x np)) none (b₀ :: suite) pos'] [] [] pos) (sTryN cs f g) :=
  (ps_try_only (tb := fun W => TDS X.K P W f) (ts := fun a cls d => fun D σ H => ∃ xn, cls = .ref (He.ga X.K xn) ∧ cs.lookup xn = some true ∧ TDS X.K (fun ex => ex = some (a, xn, d)) W0 g D σ H) hs hf hc tk hb
    (fun a oe cls d pn hz hd => PSs.ex fun xn => PSs.pre fun e => PSs.pre fun hl => by subst e; exact hsu a oe xn d pn hl hz hd)).to fun D σ H h => by
    obtain ⟨G, μ, ρ, he, h⟩ := h
    refine ⟨G, μ, ρ, he, ?_⟩
    unfold sTryN at h
    cases q : f ρ μ with
    | stuck => rw [q] at h; exact h
    | go c ρ1 μ1 => rw [q] at h; exact h
    | exc e ρ1 μ1 =>
      simp only [q] at h
      intro d σ' G' H' x1 R1 e1 ea
      cases q2 : cs.lookup e.cls with
      | none => rw [q2] at h; exact h.elim
      | some k =>
        have hm := hcs (e.cls, k) (PySem.mem_of_lookup q2)
        cases k with
        | false =>
          rw [q2] at h
          exact ⟨false, hm, fun z => by (cases z), fun _ => h d σ' G' H' x1 R1 e1 ea⟩
        | true =>
          simp only [q2] at h
          refine ⟨true, hm, fun _ a na => ?_, fun z => by (cases z)⟩
          refine ⟨e.cls, rfl, q2, { G' with ex := some (a, e.cls, d) }, μ1, _, ⟨rfl, R1.ex, EnvOk.clr e1⟩, ?_⟩
          cases q3 : g (clrX ρ1) μ1 with
          | stuck => rw [q3] at h; exact h.elim
          | exc _ _ _ => rw [q3] at h; exact h.elim
          | go c ρ3 μ3 =>
            rw [q3] at h
            intro σ3 G3 H3 x3 R3 e3
            have x4 := x1.exl x3
            cases c with
            | nx => exact h _ _ H3 x4 R3.ex e3.clr
            | bk => exact h _ _ H3 x4 R3.ex e3.clr
            | ct => exact h _ _ H3 x4 R3.ex e3.clr
            | rt s =>
              cases s with
              | x _ => exact h.elim
              | v d => exact fun v r => h _ _ H3 x4 R3.ex e3.clr v r
              | c m => exact fun v r => h _ _ H3 x4 R3.ex e3.clr v r
end
/-- err.what in the suite -/
def Exc.what (e : Exc) : Option D := if e.fs = [("what" : Str)] then (match e.vs with | [d] => some d | _ => none) else none
def fWhat (f : FE) : FE := fun ρ μ => (f ρ μ).bind fun s μ1 => match s with
  | .x e => (match e.what with | some d => .ok (.v d) μ1 | none => .stuck)
  | _ => .stuck
theorem what_of {e : Exc} {d : D} (h : e.what = some d) : e.fs = [("what" : Str)] ∧ e.vs = [d] := by
  unfold Exc.what at h
  split at h
  · rename_i b
    split at h
    · rename_i q
      cases h
      exact ⟨b, q⟩
    · cases h
  · cases h
theorem de_what {X : Cx} {W : WX} {a : Addr} {oe : Obj} {xn : Str} {d : Option Addr} {pn : List (Addr × Obj)} {e : Expr} {fe : FE} {pos : Pos} (T : ExC X.K xn) (hz : Zc (.ref (He.ga X.K xn)) d oe) (hd : ∃ vs, oe.data = .fields vs)
    (he : DE (X.suite a ((a, oe) :: pn)) (fun ex => ex = some (a, xn, d)) W e fe) (hb : attributeBase e "what" X.env (eval e X.env) = eval e X.env := by rfl) : DE (X.suite a ((a, oe) :: pn)) (fun ex => ex = some (a, xn, d)) W (.Attribute e "what" pos) (fWhat fe) := by
  refine (pe_xf (C := He.ga X.K xn) (n := "what") T.xf T.noW hz hd he hb).to fun σ H Q h => ?_
  obtain ⟨G, μ, ρ, hh, h⟩ := h
  refine ⟨G, μ, ρ, hh, Post.bind h fun s μ1 v G1 H1 x1 R1 r1 h1 => ?_⟩
  cases s with
  | v d => exact h1.elim
  | c m => exact h1.elim
  | x ee =>
    obtain ⟨a', d', e1, e2, e3⟩ := r1
    have hp : G1.ex = some (a, xn, d) := by rw [x1.ex]; exact hh.p
    rw [hp] at e1
    injection e1 with e1
    injection e1 with e0 e1
    injection e1 with e1 e1'
    subst e0 e1'
    simp only at h1
    cases q : ee.what with
    | none => rw [q] at h1; exact h1.elim
    | some dv =>
      rw [q] at h1
      obtain ⟨q2, q3⟩ := what_of q
      rcases e3 with ⟨f1, _, _⟩ | ⟨dd, fv, e4, e5, e6, e7⟩
      · rw [q2] at f1
        cases f1
      · refine ⟨e2, rfl, dd, fv, ?_⟩
        rw [q2] at e6
        rw [q3] at e7
        cases fv with
        | nil => cases e6
        | cons q fv =>
          cases fv with
          | cons _ _ => injection e6 with _ e6; cases e6
          | nil =>
            obtain ⟨qn, qv⟩ := q
            injection e6 with e6 _
            simp only at e6
            subst e6
            cases e7 with
            | cons r _ => exact ⟨qv, e4, e5, rfl, Post.val R1 h1 r⟩
end DL

namespace DL
open PySem PySem.Spec PyProof.Rows L2

/-! ### sorted(xs) -/
/-- alike data, any number: the library's order -/
def rSortD (K : PySem.W.Frag) : List V → Hp → VK → Prop := fun vs H Q => ∃ (a : Addr) (xs : List V) (ds : List D) (Rv : D → V → Prop), vs = [.ref a] ∧ SqL K H a xs ∧ Paired Rv ds xs ∧ (∀ d v, Rv d v → Dp K H v d.py) ∧
  PySem.W.AllAlike (ds.map D.py) ∧ PySem.W.Sortable (ds.map D.py) ∧ (∀ d ∈ ds, d.py.depth ≤ 64) ∧
  ∀ ys p, Paired Rv (ds.mergeSort (PySem.W.dataLe false D.py)) ys → H p = none → Q (.ref p) (upd H p (.lst ys))
theorem each_of {X : Cx} {pins : List (Addr × Obj)} {σ : L2.St} {H : Hp} {s : Shared} {Rv : D → V → Prop} : ∀ {ds : List D} {xs : List V} {us : List Value}, Paired Rv ds xs → Vals xs us → PySem.W.EachIs (fun u d => ∃ v, RelV v u ∧ Rv d v) us ds
  | [], _, _, .nil, .nil => .nil
  | _ :: _, _, _, .cons h t, .cons r rr => .cons ⟨_, r, h⟩ (each_of (X := X) (pins := pins) (σ := σ) (H := H) (s := s) t rr)
theorem of_each {Rv : D → V → Prop} : ∀ {us : List Value} {ds : List D}, PySem.W.EachIs (fun u d => ∃ v, RelV v u ∧ Rv d v) us ds → ∃ ys, Vals ys us ∧ Paired Rv ds ys
  | _, _, .nil => ⟨[], .nil, .nil⟩
  | _, _, .cons ⟨v, r, h⟩ t => by
    obtain ⟨ys, r2, p⟩ := of_each t
    exact ⟨v :: ys, .cons r r2, .cons h p⟩
theorem EachIs.mono' {α β : Type} {R S : α → β → Prop} : ∀ {as : List α} {bs : List β}, PySem.W.EachIs R as bs → (∀ a b, R a b → S a b) → PySem.W.EachIs S as bs
  | _, _, .nil, _ => .nil
  | _, _, .cons h t, f => .cons (f _ _ h) (EachIs.mono' t f)
theorem cr_sortD {X : Cx} (hu : X.A.units + 70 < cLine) : CallR X (.builtin "sorted") (rSortD X.K) := by
  intro pins s σ H vs us Q I r h
  obtain ⟨a, xs, ds, Rv, rfl, hs, hp, hd, hal, hso, hdep, q⟩ := h
  obtain ⟨its, rv, hl, hz⟩ := I.list hs
  rw [Vals.ref1 r]
  have e0 := each_of (X := X) (pins := pins) (σ := σ) (H := H) (s := s) hp rv
  refine PySem.W.sorted_data (enc := D.py) hl.isList e0 (EachIs.mono' e0 fun u d ⟨v, r, h⟩ => Dp.reads I _ _ _ (hd _ _ h) r) hal hso (by rw [hp.length]; exact hz) (fun b hb => by have := hdep b hb; omega) fun out hlen he => ?_
  obtain ⟨ys, r2, p2⟩ := of_each he
  obtain ⟨ep, he'⟩ := PyProof.Rows.sortedAll_at s.heap its out.toArray
  refine ⟨.ref _, upd H (s.heap.objs.size + 1) (.lst ys), I.laid (t' := s.toks) (fun _ _ => PyProof.Rows.sortedAll_old) (Nat.le_succ _) ⟨?_, out, ep, r2, he'⟩, rfl, q ys _ p2 (I.hok.fresh (Nat.le_succ _))⟩
  rw [r2.length, hlen, hp.length]
  exact hz
def isTN : PyData → Bool
  | .tuple (_ :: _) => true
  | _ => false
def isNT : PyData → Bool
  | .none => false
  | .tuple _ => false
  | _ => true
def sortOk (ds : List D) : Bool := ds.all (fun d => SeqAt.shaped d.py) && (ds.all (fun a => ds.all fun b => PySem.W.alike a.py b.py) && (ds.all (fun d => isTN d.py) || ds.all fun d => isNT d.py))
def sortD (ds : List D) : List D := ds.mergeSort (PySem.W.dataLe false D.py)
theorem RepL.paired {K : PySem.W.Frag} {F : Addr → Prop} {H : Hp} : ∀ {ds : List D} {vs : List V}, RepL K F H ds vs → Paired (Rep K F H) ds vs
  | _, _, .nil => .nil
  | _, _, .cons h t => .cons h (RepL.paired t)
theorem RepL.ofPaired {K : PySem.W.Frag} {F : Addr → Prop} {H : Hp} : ∀ {ds : List D} {vs : List V}, Paired (Rep K F H) ds vs → RepL K F H ds vs
  | _, _, .nil => .nil
  | _, _, .cons h t => .cons h (RepL.ofPaired t)
theorem paired_and {α β : Type} {R : α → β → Prop} {p : α → Prop} : ∀ {as : List α} {bs : List β}, Paired R as bs → (∀ a ∈ as, p a) → Paired (fun a b => R a b ∧ p a) as bs
  | _, _, .nil, _ => .nil
  | _, _, .cons h t, f => .cons ⟨h, f _ List.mem_cons_self⟩ (paired_and t fun a m => f a (List.mem_cons_of_mem _ m))
def sortF (nb : Bool) : D → Store → Out Sl := fun d μ => match d with
  | .lst ds => if sortOk ds = true then mk nb (.lst (sortD ds)) μ else .stuck
  | _ => .stuck
theorem cld_sort {K : PySem.W.Frag} (nb : Bool) : CallD K (rSortD K) (gc1 (sortF nb)) := cld1 fun G μ H σ W a x Q R ra p => by
  cases a with
  | lst ds =>
    obtain ⟨b, xs, rfl, hb, r⟩ := ra.lst
    have p' : Post (SlRep K) K W σ G H (if sortOk ds = true then mk nb (.lst (sortD ds)) μ else .stuck) Q := p
    by_cases hk : sortOk ds = true
    · rw [if_pos hk] at p'
      obtain ⟨h1, h2⟩ := Bool.and_eq_true_iff.mp hk
      obtain ⟨h3, h4⟩ := Bool.and_eq_true_iff.mp h2
      have sh : ∀ d ∈ ds, SeqAt.shaped d.py = true := fun d m => List.all_eq_true.mp h1 d m
      refine ⟨b, xs, ds, fun d v => Rep K G.F H d v ∧ SeqAt.shaped d.py = true, rfl, .of hb, paired_and r.paired sh, fun d v q => q.1.dp (SeqAt.canLay_of_shaped q.2), ?_, ?_, fun d m => SeqAt.depth_of_shaped (sh d m), fun ys q hy hq => ?_⟩
      · intro d hd d' hd'
        obtain ⟨u, m, rfl⟩ := List.mem_map.mp hd
        obtain ⟨v, n, rfl⟩ := List.mem_map.mp hd'
        exact List.all_eq_true.mp (List.all_eq_true.mp h3 u m) v n
      · rcases Bool.or_eq_true_iff.mp h4 with z | z
        · refine .inl fun d hd => ?_
          obtain ⟨u, m, rfl⟩ := List.mem_map.mp hd
          have w := List.all_eq_true.mp z u m
          unfold isTN at w
          split at w
          · rename_i x r e
            exact ⟨x, r, e⟩
          · cases w
        · refine .inr fun d hd => ?_
          obtain ⟨u, m, rfl⟩ := List.mem_map.mp hd
          have w := List.all_eq_true.mp z u m
          constructor
          · intro e; rw [e] at w; cases w
          · intro xs e; rw [e] at w; cases w
      · exact Post.mkL R p' hq (RepL.ofPaired (Paired.mapP hy fun _ _ q => q.1))
    · rw [if_neg hk] at p'
      exact p'.elim
  | _ => exact p.elim

/-! ### tests: is None, is -/
section
variable {X : Cx} {P : PX} {W : WX} {a b c e : Expr} {es : List Expr} {fa fb fc : FE} {ft fu : FT} {fg : FA} {pos p : Pos}
theorem dt_isN {j pos'} (ha : DE X P W a fa) : DT X P W (.Compare a [.Is] [.Constant .none j pos'] pos) (fTest (fUn fa (isNonF false))) := (pt_cmp (pc_isN ha) rfl).to fun σ H Q q => TD.un und_isN _ _ _ (TD.test σ H Q q)
theorem dt_notN {j pos'} (ha : DE X P W a fa) : DT X P W (.Compare a [.IsNot] [.Constant .none j pos'] pos) (fTest (fUn fa (isNonF true))) := (pt_cmp (pc_notN ha) rfl).to fun σ H Q q => TD.un und_notN _ _ _ (TD.test σ H Q q)
theorem dt_in (neg : Bool) (hu : X.A.units + 65 < cLine) (hm : behindInMarks (if neg = true then .NotIn else .In) b = false) (ha : DE X P W a fa) (hb : DE X P W b fb) : DT X P W (.Compare a [if neg = true then .NotIn else .In] [b] pos) (fTest (fBin fa fb (g2 (inF neg)))) := by
  cases neg with
  | true => exact dt_cmp (opr_notIn hu) (opd_in true) hm ha hb
  | false => exact dt_cmp (opr_in hu) (opd_in false) hm ha hb
end

/-! ### the head -/
structure HK where
  fa : List He.Fa
  fn : List He.DefD
  ex : PySem.W.Frag → Bool
def asC (g : Addr → Option Obj) : Nat → List Addr
  | 0 => [mainGlobals, cStatics]
  | n + 1 => He.growD g (asC g n)
abbrev AlC : Type := He.AlD × Bool
def obsK (hk : HK) (K : PySem.W.Frag) : AlC := (He.obsD hk.fa hk.fn K, hk.ex K)
def obsC (n : Nat) (hk : HK) (g : Addr → Option Obj) : AlC := obsK hk (He.frG g (asC g n))
def SaysC (hk : HK) (K : PySem.W.Frag) : Prop := He.SaysD hk.fa hk.fn K ∧ hk.ex K = true
def hookC (n : Nat) (hk : HK) : PySem.W.Hook where
  α := AlC
  obs := fun s => obsC n hk s.heap.get?
  val := fun _ => (He.valD hk.fn, true)
  says := fun _ h => ∃ K : PySem.W.Frag, K.In h ∧ SaysC hk K
  of := fun _ _ e => ⟨_, He.frG_in, congrArg Prod.fst e, congrArg Prod.snd e⟩
  keeps := fun _ _ _ ⟨K, hK, c⟩ k => ⟨K, PySem.W.Frag.In.keeps hK k, c⟩
theorem obsC_eq {n : Nat} {hk : HK} {g : Addr → Option Obj} {s : Shared} (h : ∀ a, g a = s.heap.get? a) : obsC n hk g = (hookC n hk).obs s := by
  have e : g = s.heap.get? := funext h
  rw [e] <;> rfl
/-- what a def's name stands for -/
structure FD (K : PySem.W.Frag) (mg : Str → Option Value) (x : Str) (params : Arguments) (body : List Stmt) (scope : Scope) (ps : List Str) (fd : FuncData) : Prop where
  F : FunD K x x params body scope [] [] (He.ga K x) fd
  m : mg x = some (.ref (He.ga K x))
  b : Binds K fd ps []
theorem hu65 {k : Nat} {A : Around} (r : Room k A) : A.units + 65 < cLine := by have := r.un; omega
theorem hu70 {k : Nat} {A : Around} (r : Room k A) : A.units + 70 < cLine := by have := r.un; omega
/-- a promise that nobody can use -/
theorem fn_none {P : Program} {w : World} {K : PySem.W.Frag} {mg : Str → Option Value} {base : Heap} {f : Addr} {fd : FuncData} {ps : List Str} {k : Nat} : FnOk P w K mg base (L2.CX P w) k f fd ps (spG K ps.length fun _ _ => .stuck) :=
  ⟨fun vs H Q E h => h.1, fun A outer s H args us vs Q E hr he hb hv hs => by
    obtain ⟨_, G, μ, ss, _, _, p⟩ := hs
    exact p.elim⟩
theorem fn_noneP {P : Program} {w : World} {K : PySem.W.Frag} {mg : Str → Option Value} {base : Heap} {f : Addr} {fd : FuncData} {ps : List Str} {k : Nat} : FnOk P w K mg base (L2.CX P w) k f fd ps (spG K ps.length (lift fun _ => .stuck)) :=
  fn_none.imp fun vs H Q E ⟨h0, G, μ, ss, R, r, p⟩ => by
    unfold lift at p
    split at p
    · exact p.elim
    · exact p.elim
/-- no exception leaves it -/
theorem fn_cx0 {P : Program} {w : World} {K : PySem.W.Frag} {mg : Str → Option Value} {base : Heap} {f : Addr} {fd : FuncData} {ps : List Str} {k : Nat} {sp : Sp} (F : FnOk P w K mg base (L2.CX P w) k f fd ps sp) :
    FnOk P w K mg base CX0 k f fd ps (fun vs H Q _ => sp vs H Q E0) :=
  ⟨fun vs H Q E h => F.len _ _ _ _ h, fun A outer s H args us vs Q E hr he hb hv hs => codeAny_mono (F.run A outer s H args us vs Q E0 hr he hb hv hs) fun r s' h => by
    cases r with
    | error e =>
      obtain ⟨_, _, _, _, _, _, _, _, _, _, _, _, z⟩ := h
      exact z.elim
    | ok fl => cases fl <;> exact h⟩
theorem law_sp {K : PySem.W.Frag} {φ : List Sl → Store → Out Sl} {ns : List Int} {μ' : Store} (hp : φ [.v (.fz (ns.map .int))] [] = .ok (.v (.bl true)) μ') {H : Hp} {a : Addr} (hO : Only H) (hS : SqL K H a (ns.map V.int)) :
    spG K 1 φ [.ref a] H (fun v _ => v = .bl true) E0 := by
  have hz : FzAt K H a (ns.map V.int) := by
    rcases hS with (h | h) | h
    · rcases hO a with n | ⟨o, xs, e⟩
      · rw [n] at h; cases h
      · rw [e] at h; cases h
    · exact .inl h
    · exact .inr h
  have rl : ∀ l : List Int, RepL K (fun _ => False) H (l.map D.int) (l.map V.int) := fun l => by
    induction l with
    | nil => exact .nil
    | cons i l ih => exact .cons (.int i) ih
  refine ⟨rfl, ⟨fun _ => False, [], none⟩, [], [.v (.fz (ns.map .int))], ⟨fun a f => f.elim, rfl, fun c d e => by simp at e, fun c a e => by simp at e, fun c c' a e => by simp at e⟩, .cons (Rep.fz hz (rl ns)) .nil, ?_⟩
  rw [hp]
  intro b G' H' x R r
  cases r
  rfl
end DL

namespace DL
open PySem PySem.Spec PyProof.Rows L2

/-! ### equations -/
section
variable {α β : Type} {a : α} {μ μ' ν : Store} {ρ ρ' : Env} {e : Exc} {k : α → Store → Out β} {ks : α → Store → SOut} {kf : FS} {s : Sl}
theorem bind_ok : (Out.ok a μ).bind k = k a μ := rfl
theorem bind_exc : (Out.exc e μ : Out α).bind k = .exc e μ := rfl
theorem bind_stuck : (Out.stuck : Out α).bind k = .stuck := rfl
theorem st_ok : (Out.ok a μ).st ρ ks = ks a μ := rfl
theorem st_exc : (Out.exc e μ : Out α).st ρ ks = .exc e ρ μ := rfl
theorem seq_nx : (SOut.go .nx ρ μ).seq kf = kf ρ μ := rfl
theorem seq_rt : (SOut.go (.rt s) ρ μ).seq kf = .go (.rt s) ρ μ := rfl
theorem seq_bk : (SOut.go .bk ρ μ).seq kf = .go .bk ρ μ := rfl
theorem seq_ct : (SOut.go .ct ρ μ).seq kf = .go .ct ρ μ := rfl
theorem seq_exc : (SOut.exc e ρ μ).seq kf = .exc e ρ μ := rfl
theorem turn_nx : (SOut.go .nx ρ μ).turn kf = kf ρ μ := rfl
theorem turn_ct : (SOut.go .ct ρ μ).turn kf = kf ρ μ := rfl
theorem turn_bk : (SOut.go .bk ρ μ).turn kf = .go .nx ρ μ := rfl
theorem turn_rt : (SOut.go (.rt s) ρ μ).turn kf = .go (.rt s) ρ μ := rfl
theorem turn_exc : (SOut.exc e ρ μ).turn kf = .exc e ρ μ := rfl
theorem mk_true {d : D} : mk true d μ = .ok (.c μ.length) (μ ++ [some d]) := rfl
theorem mk_false {d : D} : mk false d μ = .ok (.v d) μ := rfl
theorem runS_rt : runS (.go (.rt s) ρ μ) = .ok s μ := rfl
theorem runS_nx : runS (.go .nx ρ μ) = .ok (.v .non) μ := rfl
theorem runS_exc : runS (.exc e ρ μ) = .exc e μ := rfl
theorem forL_nil {tg : FG} {b : FS} : sForL tg b [] ρ μ = .go .nx ρ μ := rfl
theorem get_off {α : Type} (ν l : List α) (k : Nat) : (ν ++ l)[ν.length + k]? = l[k]? := by
  rw [List.getElem?_append_right (by omega)]; congr 1; omega
theorem get_off0 {α : Type} (ν l : List α) : (ν ++ l)[ν.length]? = l[0]? := get_off ν l 0
theorem set_off {α : Type} (ν l : List α) (k : Nat) (x : α) : (ν ++ l).set (ν.length + k) x = ν ++ l.set k x := by
  rw [List.set_append_right _ _ (by omega)]; congr 2; omega
theorem set_off0 {α : Type} (ν l : List α) (x : α) : (ν ++ l).set ν.length x = ν ++ l.set 0 x := set_off ν l 0 x
theorem take_len (x : Option D) : (x :: μ).take (μ.length + 1) = x :: μ := by rw [List.take_of_length_le]; simp
end

/-! ### shapes -/
def shp (n : Nat) (d : D) : Prop := d.py.canLay0 = true ∧ d.py.depth ≤ n
theorem shp_ok {d : D} (h : shp 64 d) : SeqAt.shaped d.py = true := Bool.and_eq_true_iff.mpr ⟨h.1, decide_eq_true h.2⟩
theorem shp_mono {n m : Nat} {d : D} (h : shp n d) (l : n ≤ m) : shp m d := ⟨h.1, Nat.le_trans h.2 l⟩
theorem shp_int (i : Int) (n : Nat) : shp n (.int i) := ⟨by simp [D.py, PyData.canLay0], by simp [D.py, PyData.depth]⟩
theorem shp_bl (i : Bool) (n : Nat) : shp n (.bl i) := ⟨by simp [D.py, PyData.canLay0], by simp [D.py, PyData.depth]⟩
theorem shp_non (n : Nat) : shp n .non := ⟨by simp [D.py, PyData.canLay0], by simp [D.py, PyData.depth]⟩
theorem shp_str {x : Str} (h : PyData.canLay0 (.str x) = true) (n : Nat) : shp n (.str x) := ⟨by simpa only [D.py] using h, by simp [D.py, PyData.depth]⟩
theorem shpL {n : Nat} : ∀ {ds : List D}, (∀ d ∈ ds, shp n d) → PyData.canLayAll0 (D.pyL ds) = true ∧ PyData.depthAll (D.pyL ds) ≤ n
  | [], _ => by simp [D.pyL, PyData.canLayAll0, PyData.depthAll]
  | d :: ds, h => by
    obtain ⟨h1, h2⟩ := h d List.mem_cons_self
    obtain ⟨h3, h4⟩ := shpL (ds := ds) fun x m => h x (List.mem_cons_of_mem _ m)
    simp only [D.pyL, PyData.canLayAll0, PyData.depthAll, Bool.and_eq_true]
    exact ⟨⟨h1, h3⟩, by omega⟩
theorem shp_lst {n : Nat} {ds : List D} (h : ∀ d ∈ ds, shp n d) : shp (n + 1) (.lst ds) := by
  obtain ⟨h1, h2⟩ := shpL h
  exact ⟨by simpa only [D.py, PyData.canLay0] using h1, by simp only [D.py, PyData.depth]; omega⟩
theorem shp_tup {n : Nat} {ds : List D} (h : ∀ d ∈ ds, shp n d) : shp (n + 1) (.tup ds) := by
  obtain ⟨h1, h2⟩ := shpL h
  exact ⟨by simpa only [D.py, PyData.canLay0] using h1, by simp only [D.py, PyData.depth]; omega⟩
theorem shp_ints (xs : List Int) (n : Nat) : shp (n + 1) (.lst (xs.map .int)) := shp_lst fun d m => by
  obtain ⟨i, _, rfl⟩ := List.mem_map.mp m
  exact shp_int i n
theorem shp_intsT (xs : List Int) (n : Nat) : shp (n + 1) (.tup (xs.map .int)) := shp_tup fun d m => by
  obtain ⟨i, _, rfl⟩ := List.mem_map.mp m
  exact shp_int i n

/-! ### ==, != -/
section
variable {μ : Store}
theorem eqF_self {d : D} (h : shp 64 d) : eqF d d μ = .ok (.v (.bl true)) μ := by
  unfold eqF; rw [if_pos ⟨shp_ok h, shp_ok h⟩, SeqAt.eqv_refl _ h.1]; rfl
theorem neF_self {d : D} (h : shp 64 d) : neF d d μ = .ok (.v (.bl false)) μ := by
  unfold neF; rw [if_pos ⟨shp_ok h, shp_ok h⟩, SeqAt.eqv_refl _ h.1]; rfl
theorem eqF_of {d e : D} (h : shp 64 d) (h2 : shp 64 e) {b : Bool} (q : PyData.eqv d.py e.py = b) : eqF d e μ = .ok (.v (.bl b)) μ := by
  unfold eqF; rw [if_pos ⟨shp_ok h, shp_ok h2⟩, q]; rfl
theorem neF_of {d e : D} (h : shp 64 d) (h2 : shp 64 e) {b : Bool} (q : PyData.eqv d.py e.py = b) : neF d e μ = .ok (.v (.bl !b)) μ := by
  unfold neF; rw [if_pos ⟨shp_ok h, shp_ok h2⟩, q]; rfl
theorem eqv_ints : ∀ xs ys : List Int, PyData.eqvAll (D.pyL (xs.map .int)) (D.pyL (ys.map .int)) = decide (xs = ys)
  | [], [] => by simp [D.pyL, PyData.eqvAll]
  | [], _ :: _ => by simp [D.pyL, PyData.eqvAll]
  | _ :: _, [] => by simp [D.pyL, PyData.eqvAll]
  | x :: xs, y :: ys => by
    simp only [List.map_cons, D.pyL, PyData.eqvAll, D.py, PyData.eqv, eqv_ints xs ys]
    simp [Bool.decide_and]
    rfl
theorem eqF_int (i j : Int) : eqF (.int i) (.int j) μ = .ok (.v (.bl (decide (i = j)))) μ := eqF_of (shp_int _ _) (shp_int _ _) (by simp only [D.py, PyData.eqv]; rfl)
theorem neF_int (i j : Int) : neF (.int i) (.int j) μ = .ok (.v (.bl !(decide (i = j)))) μ := neF_of (shp_int _ _) (shp_int _ _) (by simp only [D.py, PyData.eqv]; rfl)
theorem eqF_ints (xs ys : List Int) : eqF (.lst (xs.map .int)) (.lst (ys.map .int)) μ = .ok (.v (.bl (decide (xs = ys)))) μ := eqF_of (shp_ints _ 63) (shp_ints _ 63) (by simp only [D.py, PyData.eqv]; exact eqv_ints xs ys)
theorem neF_ints (xs ys : List Int) : neF (.lst (xs.map .int)) (.lst (ys.map .int)) μ = .ok (.v (.bl !(decide (xs = ys)))) μ := neF_of (shp_ints _ 63) (shp_ints _ 63) (by simp only [D.py, PyData.eqv]; exact eqv_ints xs ys)
theorem eqF_intsT (xs ys : List Int) : eqF (.tup (xs.map .int)) (.tup (ys.map .int)) μ = .ok (.v (.bl (decide (xs = ys)))) μ := eqF_of (shp_intsT _ 63) (shp_intsT _ 63) (by simp only [D.py, PyData.eqv]; exact eqv_ints xs ys)
theorem neF_intsT (xs ys : List Int) : neF (.tup (xs.map .int)) (.tup (ys.map .int)) μ = .ok (.v (.bl !(decide (xs = ys)))) μ := neF_of (shp_intsT _ 63) (shp_intsT _ 63) (by simp only [D.py, PyData.eqv]; exact eqv_ints xs ys)
end
end DL

namespace DL
open PySem PySem.Spec PyProof.Rows L2

/-! ### _law_take: 0 deck 1 many -/
def b_take : FS := sSeq (sIf (fTest (fBin (fCall (gc1 lenF) (fCons (fVar 0) (fNil))) (fC (.int 0)) (g2 eqF))) (sRet (fC (.int 0))) (sSkip)) (sRet (fBin (fCall (gc1 int1F) (fCons (fMeth isLst (fVar 0) fNil popG) (fNil))) (fVar 1) (g2 modF)))
def m_take : List Sl → Store → Out Sl := fun ss μ => runC μ.length (b_take (startE 2 ss) μ)
/-- what is drawn, what is left -/
def tk (deck : List Int) (k : Int) : Int := match deck[deck.length - 1]? with
  | some x => x.fmod k
  | none => 0
theorem take_eq (deck : List Int) (k : Int) (hk : k ≠ 0) (μ : Store) : m_take [.c 0, .v (.int k)] (some (.lst (deck.map .int)) :: μ) = .ok (.v (.int (tk deck k))) (some (.lst (deck.dropLast.map .int)) :: μ) := by
  by_cases h : deck = []
  · subst h
    simp [m_take, b_take, bind_ok, bind_exc, st_ok, st_exc, seq_nx, seq_rt, seq_bk, seq_ct, seq_exc, turn_nx, turn_ct, turn_bk, turn_rt, turn_exc, mk_true, mk_false, runS_rt, runS_nx, runS_exc, forL_nil, get_off, get_off0, set_off, set_off0, take_len,  sSeq, sIf, sSkip, sRet, sDrop, sAsg, sFor, sGhost, tFreeze, fTest, fBin, fUn, fCall, fCons, fNil, fVar, fC, fAnd, fOr, fNot, fIf, fLst, fTup, fChain, fAndV, fOrV, gNot, allV, g1, g2, gc1, gc2, Sl.get, okV, gNm, gUnp, gUnpL, gsNil, gsCons,  fSeq, fRng1, fRng2, fEnum, fComp, fYes, CT.put, setAll, wipeE, fMeth, isLst, lstAt, appendG, extendG, popG, popAtG, reverseG, countG, fNo, fPart, fSl, slF, revF, addF, subF, mulF, fdivF, modF, powF, ordF, negF, isNonF, isF, absF, max2F, min2F, int1F, lenF, listF, tupleF, sumF, maxF, minF, ixF,  gSubF, setL, sPar, sAug, runC, lift, pureOf, getAll, allVB, D.nol, D.nolL, startE, isiF, tyName, clsL, clsNm, isiB, eqF_int, neF_int, eqF_ints, neF_ints, eqF_intsT, neF_intsT, tk]
  · have hl : ¬ ((deck.length : Int) = 0) := by
      intro z; exact h (List.length_eq_zero_iff.mp (by omega))
    have hx : ∃ x, deck[deck.length - 1]? = some x := by
      have : deck.length ≠ 0 := fun z => h (List.length_eq_zero_iff.mp z)
      exact ⟨deck[deck.length - 1]'(by omega), List.getElem?_eq_getElem _⟩
    obtain ⟨x, hx⟩ := hx
    simp [m_take, b_take, bind_ok, bind_exc, st_ok, st_exc, seq_nx, seq_rt, seq_bk, seq_ct, seq_exc, turn_nx, turn_ct, turn_bk, turn_rt, turn_exc, mk_true, mk_false, runS_rt, runS_nx, runS_exc, forL_nil, get_off, get_off0, set_off, set_off0, take_len,  sSeq, sIf, sSkip, sRet, sDrop, sAsg, sFor, sGhost, tFreeze, fTest, fBin, fUn, fCall, fCons, fNil, fVar, fC, fAnd, fOr, fNot, fIf, fLst, fTup, fChain, fAndV, fOrV, gNot, allV, g1, g2, gc1, gc2, Sl.get, okV, gNm, gUnp, gUnpL, gsNil, gsCons,  fSeq, fRng1, fRng2, fEnum, fComp, fYes, CT.put, setAll, wipeE, fMeth, isLst, lstAt, appendG, extendG, popG, popAtG, reverseG, countG, fNo, fPart, fSl, slF, revF, addF, subF, mulF, fdivF, modF, powF, ordF, negF, isNonF, isF, absF, max2F, min2F, int1F, lenF, listF, tupleF, sumF, maxF, minF, ixF,  gSubF, setL, sPar, sAug, runC, lift, pureOf, getAll, allVB, D.nol, D.nolL, startE, isiF, tyName, clsL, clsNm, isiB, eqF_int, neF_int, eqF_ints, neF_ints, eqF_intsT, neF_intsT, tk, hl, hx, hk, h]
theorem tk_nonneg (deck : List Int) {k : Int} (hk : 0 < k) : 0 ≤ tk deck k := by
  unfold tk
  split
  · exact Int.fmod_nonneg_of_pos _ hk
  · exact Int.le_refl _
theorem tk_lt (deck : List Int) {k : Int} (hk : 0 < k) : tk deck k < k := by
  unfold tk
  split
  · exact Int.fmod_lt_of_pos _ hk
  · exact hk
/-! ### loops -/
theorem forL_ind {tg : FG} {body : FS} (I : Nat → Env → Store → Prop) (Fin : SOut → Prop) : ∀ (ds : List D) (k : Nat) (ρ : Env) (μ : Store), I k ρ μ →
    (∀ i d ρ μ, ds[i]? = some d → I (k + i) ρ μ → ∃ ρ1 μ1, tg (.v d) ρ μ = some (ρ1, μ1) ∧ ((∃ ρ2 μ2, (body ρ1 μ1 = .go .nx ρ2 μ2 ∨ body ρ1 μ1 = .go .ct ρ2 μ2) ∧ I (k + i + 1) ρ2 μ2) ∨ (∃ ρ2 μ2, body ρ1 μ1 = .go .bk ρ2 μ2 ∧ Fin (.go .nx ρ2 μ2)) ∨ (∃ s ρ2 μ2, body ρ1 μ1 = .go (.rt s) ρ2 μ2 ∧ Fin (.go (.rt s) ρ2 μ2)) ∨ ∃ e ρ2 μ2, body ρ1 μ1 = .exc e ρ2 μ2 ∧ Fin (.exc e ρ2 μ2))) →
    (∀ ρ μ, I (k + ds.length) ρ μ → Fin (.go .nx ρ μ)) → Fin (sForL tg body ds ρ μ)
  | [], k, ρ, μ, h0, _, he => he ρ μ h0
  | d :: ds, k, ρ, μ, h0, hs, he => by
    obtain ⟨ρ1, μ1, e1, h⟩ := hs 0 d ρ μ rfl h0
    unfold sForL
    rw [e1]
    rcases h with ⟨ρ2, μ2, e2, h⟩ | ⟨ρ2, μ2, e2, h⟩ | ⟨s, ρ2, μ2, e2, h⟩ | ⟨e, ρ2, μ2, e2, h⟩
    · have key := forL_ind I Fin ds (k + 1) ρ2 μ2 h (fun i d ρ μ hd hi => by
        have z := hs (i + 1) d ρ μ (by simpa using hd) (by rw [show k + (i + 1) = k + 1 + i by omega]; exact hi)
        rw [show k + (i + 1) + 1 = k + 1 + i + 1 by omega] at z
        exact z) (fun ρ μ hi => he ρ μ (by rw [List.length_cons, show k + (ds.length + 1) = k + 1 + ds.length by omega]; exact hi))
      rcases e2 with e2 | e2 <;> (simp only [e2]; exact key)
    · simp only [e2]; exact h
    · simp only [e2]; exact h
    · simp only [e2]; exact h
theorem forL_inv {tg : FG} {body : FS} (I : Nat → Env → Store → Prop) {ds : List D} {ρ : Env} {μ : Store} (h0 : I 0 ρ μ)
    (hs : ∀ i d ρ μ, ds[i]? = some d → I i ρ μ → ∃ ρ1 μ1 ρ2 μ2, tg (.v d) ρ μ = some (ρ1, μ1) ∧ body ρ1 μ1 = .go .nx ρ2 μ2 ∧ I (i + 1) ρ2 μ2) : ∃ ρ' μ', sForL tg body ds ρ μ = .go .nx ρ' μ' ∧ I ds.length ρ' μ' := by
  refine forL_ind (fun i ρ μ => I i ρ μ) (fun o => ∃ ρ' μ', o = .go .nx ρ' μ' ∧ I ds.length ρ' μ') ds 0 ρ μ h0 (fun i d ρ μ hd hi => ?_) (fun ρ μ hi => ⟨ρ, μ, rfl, by rw [Nat.zero_add] at hi; exact hi⟩)
  rw [Nat.zero_add] at hi
  obtain ⟨ρ1, μ1, ρ2, μ2, e1, e2, h⟩ := hs i d ρ μ hd hi
  exact ⟨ρ1, μ1, e1, .inl ⟨ρ2, μ2, .inl e2, by rw [Nat.zero_add]; exact h⟩⟩
theorem rangeD_len (lo : Int) (n : Nat) : (rangeD lo n).length = n := by simp [rangeD]
theorem rangeD_get {lo : Int} {n i : Nat} {d : D} (h : (rangeD lo n)[i]? = some d) : i < n ∧ d = .int (lo + (i : Nat)) := by
  unfold rangeD at h
  rw [List.getElem?_map] at h
  cases e : (List.range n)[i]? with
  | none => rw [e] at h; cases h
  | some j =>
    rw [e] at h
    obtain ⟨h1, h2⟩ := List.getElem?_eq_some_iff.mp e
    simp at h1 h2
    subst h2
    cases h
    exact ⟨h1, rfl⟩

/-! ### _law_deck: 0 script 1 cells 2 each 3 deck 4 seed 5 k 6 cell 7 rest 8 at -/
def b_deck_1 : FS := sSeq (sDrop (fMeth isLst (fVar 3) (fCons (fBin (fCall (gc1 int1F) (fCons (fVar 7) (fNil))) (fC (.int 1000003)) (g2 modF)) (fNil)) appendG)) (sAsg (fBin (fVar 7) (fC (.int 1000003)) (g2 fdivF)) (gNm 7))
def b_deck_2 : FS := sSeq (sAsg (fBin (fCall (gc1 int1F) (fCons (fBin (fBin (fBin (fVar 4) (fC (.int 69621)) (g2 (mulF false))) (fVar 8) (g2 (addF false))) (fC (.int 1)) (g2 (addF false))) (fNil))) (fC (.int 2147483629)) (g2 modF)) (gNm 4)) (sDrop (fMeth isLst (fVar 3) (fCons (fBin (fCall (gc1 int1F) (fCons (fBin (fVar 4) (fC (.int 5)) (g2 fdivF)) (fNil))) (fC (.int 1000003)) (g2 modF)) (fNil)) appendG))
def b_deck_3 : FS := sSeq (sAsg (fC (.int 0)) (gNm 6)) (sSeq (sIf (fTest (fBin (fVar 5) (fCall (gc1 lenF) (fCons (fVar 0) (fNil))) (g2 ltF))) (sAsg (fBin (fVar 0) (fVar 5) (g2 ixF)) (gNm 6)) (sSkip)) (sSeq (sAsg (fCall (gc1 absF) (fCons (fVar 6) (fNil))) (gNm 7)) (sIf (fTest (fBin (fVar 7) (fBin (fC (.int 10)) (fC (.int 30)) (g2 powF)) (g2 geF))) (sFor (fRng1 (fCons (fVar 2) (fNil))) (gNm 8) (b_deck_1)) (sSeq (sAsg (fBin (fCall (gc1 int1F) (fCons (fBin (fBin (fBin (fBin (fVar 4) (fC (.int 48271)) (g2 (mulF false))) (fBin (fC (.int 2)) (fVar 7) (g2 (mulF false))) (g2 (addF false))) (fCall (gc1 int1F) (fCons (fBin (fVar 6) (fC (.int 0)) (g2 ltF)) (fNil))) (g2 (addF false))) (fVar 5) (g2 (addF false))) (fNil))) (fC (.int 2147483647)) (g2 modF)) (gNm 4)) (sFor (fRng1 (fCons (fVar 2) (fNil))) (gNm 8) (b_deck_2))))))
def b_deck : FS := sSeq (sAsg (fLst true (fNil)) (gNm 3)) (sSeq (sAsg (fBin (fC (.int 7)) (fCall (gc1 lenF) (fCons (fVar 0) (fNil))) (g2 (addF false))) (gNm 4)) (sSeq (sFor (fRng1 (fCons (fVar 1) (fNil))) (gNm 5) (b_deck_3)) (sSeq (sDrop (fMeth isLst (fVar 3) fNil reverseG)) (sRet (fVar 3)))))
def m_deck : List Sl → Store → Out Sl := fun ss μ => runS (b_deck (startE 9 ss) μ)
theorem mulOk_r (i : Int) (j : Int) (h : (decide (-(2 ^ 64) < j) && decide (j < 2 ^ 64)) = true) : mulOk i j = true := by unfold mulOk; rw [h]; simp
theorem mulOk_l (i : Int) (j : Int) (h : (decide (-(2 ^ 64) < i) && decide (i < 2 ^ 64)) = true) : mulOk i j = true := by unfold mulOk; rw [h]; simp
/-- the state between the turns: l the deck so far -/
def dkI (ns : List Int) (c e : Nat) (m : Nat) (ρ : Env) (μ : Store) : Prop := ∃ (sd : Int) (o5 o6 o7 o8 : Option Sl) (l : List Int), ρ = [some (.v (.fz (ns.map .int))), some (.v (.int c)), some (.v (.int e)), some (.c 0), some (.v (.int sd)), o5, o6, o7, o8] ∧ μ = [some (.lst (l.map .int))] ∧ l.length = m ∧ ∀ x ∈ l, 0 ≤ x
theorem deck_1 (ns : List Int) (c e n : Nat) (hn : n + e ≤ lim) {sd : Int} {o5 o6 : Option Sl} {o8 : Option Sl} {r : Int} {l : List Int} (hl : l.length = n) (hp : ∀ x ∈ l, 0 ≤ x) :
    ∃ ρ' μ', sForL (gNm 8) b_deck_1 (rangeD 0 e) [some (.v (.fz (ns.map .int))), some (.v (.int c)), some (.v (.int e)), some (.c 0), some (.v (.int sd)), o5, o6, some (.v (.int r)), o8] [some (.lst (l.map .int))] = .go .nx ρ' μ' ∧ dkI ns c e (n + e) ρ' μ' := by
  obtain ⟨ρ', μ', e1, sd', p5, p6, r', p8, l', h⟩ := forL_inv (tg := gNm 8) (body := b_deck_1) (ds := rangeD 0 e) (fun i ρ μ => ∃ (sd : Int) (o5 o6 : Option Sl) (r : Int) (o8 : Option Sl) (l : List Int), ρ = [some (.v (.fz (ns.map .int))), some (.v (.int c)), some (.v (.int e)), some (.c 0), some (.v (.int sd)), o5, o6, some (.v (.int r)), o8] ∧ μ = [some (.lst (l.map .int))] ∧ l.length = n + i ∧ ∀ x ∈ l, 0 ≤ x)
    ⟨sd, o5, o6, r, o8, l, rfl, rfl, hl, hp⟩ (fun i d ρ μ hd ⟨sd, o5, o6, r, o8, l, e1, e2, hl, hp⟩ => by
      obtain ⟨hi, rfl⟩ := rangeD_get hd
      subst e1 e2
      have hlim : l.length < lim := by omega
      refine ⟨_, _, _, _, rfl, ?_, sd, o5, o6, r.fdiv 1000003, some (.v (.int (0 + (i : Nat)))), l ++ [r.fmod 1000003], rfl, rfl, ?_, ?_⟩
      · simp [b_deck_1, bind_ok, bind_exc, st_ok, st_exc, seq_nx, seq_rt, seq_bk, seq_ct, seq_exc, turn_nx, turn_ct, turn_bk, turn_rt, turn_exc, mk_true, mk_false, runS_rt, runS_nx, runS_exc, forL_nil, get_off, get_off0, set_off, set_off0, take_len,  sSeq, sIf, sSkip, sRet, sDrop, sAsg, sFor, sGhost, tFreeze, fTest, fBin, fUn, fCall, fCons, fNil, fVar, fC, fAnd, fOr, fNot, fIf, fLst, fTup, fChain, fAndV, fOrV, gNot, allV, g1, g2, gc1, gc2, Sl.get, okV, gNm, gUnp, gUnpL, gsNil, gsCons,  fSeq, fRng1, fRng2, fEnum, fComp, fYes, CT.put, setAll, wipeE, fMeth, isLst, lstAt, appendG, extendG, popG, popAtG, reverseG, countG, fNo, fPart, fSl, slF, revF, addF, subF, mulF, fdivF, modF, powF, ordF, negF, isNonF, isF, absF, max2F, min2F, int1F, lenF, listF, tupleF, sumF, maxF, minF, ixF,  gSubF, setL, sPar, sAug, runC, lift, pureOf, getAll, allVB, D.nol, D.nolL, startE, isiF, tyName, clsL, clsNm, isiB, eqF_int, neF_int, eqF_ints, neF_ints, eqF_intsT, neF_intsT, hlim]
      · simp; omega
      · intro x hx
        rcases List.mem_append.mp hx with hx | hx
        · exact hp x hx
        · rw [List.mem_singleton.mp hx]; exact Int.fmod_nonneg_of_pos _ (by decide))
  rw [rangeD_len] at h
  exact ⟨ρ', μ', e1, sd', p5, p6, some (.v (.int r')), p8, l', h⟩
theorem deck_2 (ns : List Int) (c e n : Nat) (hn : n + e ≤ lim) {sd : Int} {o5 o6 : Option Sl} {o8 o7 : Option Sl} {l : List Int} (hl : l.length = n) (hp : ∀ x ∈ l, 0 ≤ x) :
    ∃ ρ' μ', sForL (gNm 8) b_deck_2 (rangeD 0 e) [some (.v (.fz (ns.map .int))), some (.v (.int c)), some (.v (.int e)), some (.c 0), some (.v (.int sd)), o5, o6, o7, o8] [some (.lst (l.map .int))] = .go .nx ρ' μ' ∧ dkI ns c e (n + e) ρ' μ' := by
  obtain ⟨ρ', μ', e1, h⟩ := forL_inv (tg := gNm 8) (body := b_deck_2) (ds := rangeD 0 e) (fun i => dkI ns c e (n + i))
    ⟨sd, o5, o6, o7, o8, l, rfl, rfl, hl, hp⟩ (fun i d ρ μ hd ⟨sd, o5, o6, o7, o8, l, e1, e2, hl, hp⟩ => by
      obtain ⟨hi, rfl⟩ := rangeD_get hd
      subst e1 e2
      have hlim : l.length < lim := by omega
      have m1 : mulOk sd 69621 = true := mulOk_r _ _ (by decide)
      refine ⟨_, _, _, _, rfl, ?_, (sd * 69621 + (0 + (i : Nat)) + 1).fmod 2147483629, o5, o6, o7, some (.v (.int (0 + (i : Nat)))), l ++ [(((sd * 69621 + (0 + (i : Nat)) + 1).fmod 2147483629).fdiv 5).fmod 1000003], rfl, rfl, ?_, ?_⟩
      · simp [b_deck_2, bind_ok, bind_exc, st_ok, st_exc, seq_nx, seq_rt, seq_bk, seq_ct, seq_exc, turn_nx, turn_ct, turn_bk, turn_rt, turn_exc, mk_true, mk_false, runS_rt, runS_nx, runS_exc, forL_nil, get_off, get_off0, set_off, set_off0, take_len,  sSeq, sIf, sSkip, sRet, sDrop, sAsg, sFor, sGhost, tFreeze, fTest, fBin, fUn, fCall, fCons, fNil, fVar, fC, fAnd, fOr, fNot, fIf, fLst, fTup, fChain, fAndV, fOrV, gNot, allV, g1, g2, gc1, gc2, Sl.get, okV, gNm, gUnp, gUnpL, gsNil, gsCons,  fSeq, fRng1, fRng2, fEnum, fComp, fYes, CT.put, setAll, wipeE, fMeth, isLst, lstAt, appendG, extendG, popG, popAtG, reverseG, countG, fNo, fPart, fSl, slF, revF, addF, subF, mulF, fdivF, modF, powF, ordF, negF, isNonF, isF, absF, max2F, min2F, int1F, lenF, listF, tupleF, sumF, maxF, minF, ixF,  gSubF, setL, sPar, sAug, runC, lift, pureOf, getAll, allVB, D.nol, D.nolL, startE, isiF, tyName, clsL, clsNm, isiB, eqF_int, neF_int, eqF_ints, neF_ints, eqF_intsT, neF_intsT, hlim, m1]
      · simp; omega
      · intro x hx
        rcases List.mem_append.mp hx with hx | hx
        · exact hp x hx
        · rw [List.mem_singleton.mp hx]; exact Int.fmod_nonneg_of_pos _ (by decide))
  rw [rangeD_len] at h
  exact ⟨ρ', μ', e1, h⟩
theorem small61 {n : Nat} (h : n ≤ 1000000000) : ((n : Int)).natAbs < 2 ^ 61 := by
  have : (2 : Nat) ^ 61 = 2305843009213693952 := by decide
  omega
theorem atI_map_int (ns : List Int) (k : Nat) (h : k < ns.length) : atI (ns.map D.int) (k : Int) = some (.int (ns[k])) := by
  unfold atI ixN
  rw [if_pos (by omega), if_pos (by rw [List.length_map]; omega)]
  simp [h]
theorem deck_3 (ns : List Int) (hns : ns.length ≤ 100000) (c e n : Nat) (hc : c ≤ 100000) (he : e ≤ 100000) (hn : n + e ≤ lim) {k : Nat} {sd : Int} {o6 o7 o8 : Option Sl} {l : List Int} (hl : l.length = n) (hp : ∀ x ∈ l, 0 ≤ x) :
    ∃ ρ' μ', b_deck_3 [some (.v (.fz (ns.map .int))), some (.v (.int c)), some (.v (.int e)), some (.c 0), some (.v (.int sd)), some (.v (.int k)), o6, o7, o8] [some (.lst (l.map .int))] = .go .nx ρ' μ' ∧ dkI ns c e (n + e) ρ' μ' := by
  have hsz : e < 2305843009213693952 := by omega
  have cell : ∃ x : Int, sIf (fTest (fBin (fVar 5) (fCall (gc1 lenF) (fCons (fVar 0) (fNil))) (g2 ltF))) (sAsg (fBin (fVar 0) (fVar 5) (g2 ixF)) (gNm 6)) (sSkip) [some (.v (.fz (ns.map .int))), some (.v (.int c)), some (.v (.int e)), some (.c 0), some (.v (.int sd)), some (.v (.int k)), some (.v (.int 0)), o7, o8] [some (.lst (l.map .int))] = .go .nx [some (.v (.fz (ns.map .int))), some (.v (.int c)), some (.v (.int e)), some (.c 0), some (.v (.int sd)), some (.v (.int k)), some (.v (.int x)), o7, o8] [some (.lst (l.map .int))] := by
    by_cases h : k < ns.length
    · have h' : (k : Int) < (ns.length : Int) := by omega
      exact ⟨ns[k], by simp [bind_ok, bind_exc, st_ok, st_exc, seq_nx, seq_rt, seq_bk, seq_ct, seq_exc, turn_nx, turn_ct, turn_bk, turn_rt, turn_exc, mk_true, mk_false, runS_rt, runS_nx, runS_exc, forL_nil, get_off, get_off0, set_off, set_off0, take_len,  sSeq, sIf, sSkip, sRet, sDrop, sAsg, sFor, sGhost, tFreeze, fTest, fBin, fUn, fCall, fCons, fNil, fVar, fC, fAnd, fOr, fNot, fIf, fLst, fTup, fChain, fAndV, fOrV, gNot, allV, g1, g2, gc1, gc2, Sl.get, okV, gNm, gUnp, gUnpL, gsNil, gsCons,  fSeq, fRng1, fRng2, fEnum, fComp, fYes, CT.put, setAll, wipeE, fMeth, isLst, lstAt, appendG, extendG, popG, popAtG, reverseG, countG, fNo, fPart, fSl, slF, revF, addF, subF, mulF, fdivF, modF, powF, ordF, negF, isNonF, isF, absF, max2F, min2F, int1F, lenF, listF, tupleF, sumF, maxF, minF, ixF,  gSubF, setL, sPar, sAug, runC, lift, pureOf, getAll, allVB, D.nol, D.nolL, startE, isiF, tyName, clsL, clsNm, isiB, eqF_int, neF_int, eqF_ints, neF_ints, eqF_intsT, neF_intsT, h, atI_map_int ns k h]⟩
    · have h' : ¬ (k : Int) < (ns.length : Int) := by omega
      exact ⟨0, by simp [bind_ok, bind_exc, st_ok, st_exc, seq_nx, seq_rt, seq_bk, seq_ct, seq_exc, turn_nx, turn_ct, turn_bk, turn_rt, turn_exc, mk_true, mk_false, runS_rt, runS_nx, runS_exc, forL_nil, get_off, get_off0, set_off, set_off0, take_len,  sSeq, sIf, sSkip, sRet, sDrop, sAsg, sFor, sGhost, tFreeze, fTest, fBin, fUn, fCall, fCons, fNil, fVar, fC, fAnd, fOr, fNot, fIf, fLst, fTup, fChain, fAndV, fOrV, gNot, allV, g1, g2, gc1, gc2, Sl.get, okV, gNm, gUnp, gUnpL, gsNil, gsCons,  fSeq, fRng1, fRng2, fEnum, fComp, fYes, CT.put, setAll, wipeE, fMeth, isLst, lstAt, appendG, extendG, popG, popAtG, reverseG, countG, fNo, fPart, fSl, slF, revF, addF, subF, mulF, fdivF, modF, powF, ordF, negF, isNonF, isF, absF, max2F, min2F, int1F, lenF, listF, tupleF, sumF, maxF, minF, ixF,  gSubF, setL, sPar, sAug, runC, lift, pureOf, getAll, allVB, D.nol, D.nolL, startE, isiF, tyName, clsL, clsNm, isiB, eqF_int, neF_int, eqF_ints, neF_ints, eqF_intsT, neF_intsT, h]⟩
  obtain ⟨x, cell⟩ := cell
  unfold b_deck_3
  by_cases hx : (1000000000000000000000000000000 : Int) ≤ (if x < 0 then -x else x)
  · obtain ⟨ρ', μ', e1, h⟩ := deck_1 ns c e n hn (sd := sd) (o5 := some (.v (.int k))) (o6 := some (.v (.int x))) (o8 := o8) (r := if x < 0 then -x else x) hl hp
    refine ⟨ρ', μ', ?_, h⟩
    rw [← e1]
    rw [show ∀ f ρ μ, sSeq (sAsg (fC (.int 0)) (gNm 6)) f ρ μ = f (ρ.set 6 (some (.v (.int 0)))) μ from fun _ _ _ => rfl]
    rw [show ∀ f g ρ μ, sSeq f g ρ μ = (f ρ μ).seq g from fun _ _ _ _ => rfl]
    simp only [List.set_cons_succ, List.set_cons_zero]
    rw [cell]
    simp [bind_ok, bind_exc, st_ok, st_exc, seq_nx, seq_rt, seq_bk, seq_ct, seq_exc, turn_nx, turn_ct, turn_bk, turn_rt, turn_exc, mk_true, mk_false, runS_rt, runS_nx, runS_exc, forL_nil, get_off, get_off0, set_off, set_off0, take_len,  sSeq, sIf, sSkip, sRet, sDrop, sAsg, sFor, sGhost, tFreeze, fTest, fBin, fUn, fCall, fCons, fNil, fVar, fC, fAnd, fOr, fNot, fIf, fLst, fTup, fChain, fAndV, fOrV, gNot, allV, g1, g2, gc1, gc2, Sl.get, okV, gNm, gUnp, gUnpL, gsNil, gsCons,  fSeq, fRng1, fRng2, fEnum, fComp, fYes, CT.put, setAll, wipeE, fMeth, isLst, lstAt, appendG, extendG, popG, popAtG, reverseG, countG, fNo, fPart, fSl, slF, revF, addF, subF, mulF, fdivF, modF, powF, ordF, negF, isNonF, isF, absF, max2F, min2F, int1F, lenF, listF, tupleF, sumF, maxF, minF, ixF,  gSubF, setL, sPar, sAug, runC, lift, pureOf, getAll, allVB, D.nol, D.nolL, startE, isiF, tyName, clsL, clsNm, isiB, eqF_int, neF_int, eqF_ints, neF_ints, eqF_intsT, neF_intsT, hx, hsz]
  · have m1 : mulOk sd 48271 = true := mulOk_r _ _ (by decide)
    have m2 : mulOk 2 (if x < 0 then -x else x) = true := mulOk_l _ _ (by decide)
    obtain ⟨ρ', μ', e1, h⟩ := deck_2 ns c e n hn (sd := (sd * 48271 + 2 * (if x < 0 then -x else x) + (if decide (x < 0) = true then 1 else 0) + k).fmod 2147483647) (o5 := some (.v (.int k))) (o6 := some (.v (.int x))) (o7 := some (.v (.int (if x < 0 then -x else x)))) (o8 := o8) hl hp
    refine ⟨ρ', μ', ?_, h⟩
    rw [← e1]
    rw [show ∀ f ρ μ, sSeq (sAsg (fC (.int 0)) (gNm 6)) f ρ μ = f (ρ.set 6 (some (.v (.int 0)))) μ from fun _ _ _ => rfl]
    rw [show ∀ f g ρ μ, sSeq f g ρ μ = (f ρ μ).seq g from fun _ _ _ _ => rfl]
    simp only [List.set_cons_succ, List.set_cons_zero]
    rw [cell]
    simp [bind_ok, bind_exc, st_ok, st_exc, seq_nx, seq_rt, seq_bk, seq_ct, seq_exc, turn_nx, turn_ct, turn_bk, turn_rt, turn_exc, mk_true, mk_false, runS_rt, runS_nx, runS_exc, forL_nil, get_off, get_off0, set_off, set_off0, take_len,  sSeq, sIf, sSkip, sRet, sDrop, sAsg, sFor, sGhost, tFreeze, fTest, fBin, fUn, fCall, fCons, fNil, fVar, fC, fAnd, fOr, fNot, fIf, fLst, fTup, fChain, fAndV, fOrV, gNot, allV, g1, g2, gc1, gc2, Sl.get, okV, gNm, gUnp, gUnpL, gsNil, gsCons,  fSeq, fRng1, fRng2, fEnum, fComp, fYes, CT.put, setAll, wipeE, fMeth, isLst, lstAt, appendG, extendG, popG, popAtG, reverseG, countG, fNo, fPart, fSl, slF, revF, addF, subF, mulF, fdivF, modF, powF, ordF, negF, isNonF, isF, absF, max2F, min2F, int1F, lenF, listF, tupleF, sumF, maxF, minF, ixF,  gSubF, setL, sPar, sAug, runC, lift, pureOf, getAll, allVB, D.nol, D.nolL, startE, isiF, tyName, clsL, clsNm, isiB, eqF_int, neF_int, eqF_ints, neF_ints, eqF_intsT, neF_intsT, hx, hsz, m1, m2]
/-- a deck: some integers, none below 0 -/
theorem deck_eq (ns : List Int) (hns : ns.length ≤ 100000) (c e : Nat) (hc : c ≤ 100000) (he : e ≤ 100000) (hce : c * e ≤ lim) :
    ∃ deck : List Int, m_deck [.v (.fz (ns.map .int)), .v (.int c), .v (.int e)] [] = .ok (.c 0) [some (.lst (deck.map .int))] ∧ deck.length = c * e ∧ ∀ x ∈ deck, 0 ≤ x := by
  have hsz : c < 2305843009213693952 := by omega
  obtain ⟨ρ', μ', e1, sd, o5, o6, o7, o8, l, hρ, hμ, hl, hp⟩ := forL_inv (tg := gNm 5) (body := b_deck_3) (ds := rangeD 0 c) (ρ := [some (.v (.fz (ns.map .int))), some (.v (.int c)), some (.v (.int e)), some (.c 0), some (.v (.int (7 + ns.length))), none, none, none, none]) (μ := [some (.lst [])]) (fun i => dkI ns c e (i * e))
    ⟨_, none, none, none, none, [], rfl, rfl, by simp, by simp⟩ (fun i d ρ μ hd ⟨sd, o5, o6, o7, o8, l, e1, e2, hl, hp⟩ => by
      obtain ⟨hi, rfl⟩ := rangeD_get hd
      subst e1 e2
      have hle : (i + 1) * e ≤ c * e := Nat.mul_le_mul_right e hi
      have hmul : (i + 1) * e = i * e + e := by rw [Nat.add_mul, Nat.one_mul]
      obtain ⟨ρ2, μ2, e3, h⟩ := deck_3 ns hns c e (i * e) hc he (by omega) (k := i) (sd := sd) (o6 := o6) (o7 := o7) (o8 := o8) hl hp
      refine ⟨_, _, ρ2, μ2, rfl, ?_, by rw [hmul]; exact h⟩
      rw [← e3, Int.zero_add]
      rfl)
  refine ⟨l.reverse, ?_, by rw [rangeD_len] at hl; simpa using hl, fun x hx => hp x (List.mem_reverse.mp hx)⟩
  subst hρ hμ
  simp only [m_deck, b_deck]
  have e0 : rangeD 0 ((c : Int).toNat) = rangeD 0 c := by rw [Int.toNat_natCast]
  simp [bind_ok, bind_exc, st_ok, st_exc, seq_nx, seq_rt, seq_bk, seq_ct, seq_exc, turn_nx, turn_ct, turn_bk, turn_rt, turn_exc, mk_true, mk_false, runS_rt, runS_nx, runS_exc, forL_nil, get_off, get_off0, set_off, set_off0, take_len,  sSeq, sIf, sSkip, sRet, sDrop, sAsg, sFor, sGhost, tFreeze, fTest, fBin, fUn, fCall, fCons, fNil, fVar, fC, fAnd, fOr, fNot, fIf, fLst, fTup, fChain, fAndV, fOrV, gNot, allV, g1, g2, gc1, gc2, Sl.get, okV, gNm, gUnp, gUnpL, gsNil, gsCons,  fSeq, fRng1, fRng2, fEnum, fComp, fYes, CT.put, setAll, wipeE, fMeth, isLst, lstAt, appendG, extendG, popG, popAtG, reverseG, countG, fNo, fPart, fSl, slF, revF, addF, subF, mulF, fdivF, modF, powF, ordF, negF, isNonF, isF, absF, max2F, min2F, int1F, lenF, listF, tupleF, sumF, maxF, minF, ixF,  gSubF, setL, sPar, sAug, runC, lift, pureOf, getAll, allVB, D.nol, D.nolL, startE, isiF, tyName, clsL, clsNm, isiB, eqF_int, neF_int, eqF_ints, neF_ints, eqF_intsT, neF_intsT, hsz, e0] at e1 ⊢
  rw [e1]
  simp [bind_ok, bind_exc, st_ok, st_exc, seq_nx, seq_rt, seq_bk, seq_ct, seq_exc, turn_nx, turn_ct, turn_bk, turn_rt, turn_exc, mk_true, mk_false, runS_rt, runS_nx, runS_exc, forL_nil, get_off, get_off0, set_off, set_off0, take_len,  sSeq, sIf, sSkip, sRet, sDrop, sAsg, sFor, sGhost, tFreeze, fTest, fBin, fUn, fCall, fCons, fNil, fVar, fC, fAnd, fOr, fNot, fIf, fLst, fTup, fChain, fAndV, fOrV, gNot, allV, g1, g2, gc1, gc2, Sl.get, okV, gNm, gUnp, gUnpL, gsNil, gsCons,  fSeq, fRng1, fRng2, fEnum, fComp, fYes, CT.put, setAll, wipeE, fMeth, isLst, lstAt, appendG, extendG, popG, popAtG, reverseG, countG, fNo, fPart, fSl, slF, revF, addF, subF, mulF, fdivF, modF, powF, ordF, negF, isNonF, isF, absF, max2F, min2F, int1F, lenF, listF, tupleF, sumF, maxF, minF, ixF,  gSubF, setL, sPar, sAug, runC, lift, pureOf, getAll, allVB, D.nol, D.nolL, startE, isiF, tyName, clsL, clsNm, isiB, eqF_int, neF_int, eqF_ints, neF_ints, eqF_intsT, neF_intsT, List.map_reverse]
end DL

namespace DL
open PySem PySem.Spec PyProof.Rows L2
/-! ### comprehensions -/
theorem cloop_eq {t : CT} {ft : FT} {fe : FE} {ρ : Env} {μ : Store} (p : D → Bool) (f : D → D) : ∀ (ds acc : List D), acc.length + ds.length ≤ lim →
    (∀ d ∈ ds, ∃ ρ1, t.put d ρ = some ρ1 ∧ ft ρ1 μ = .ok (p d) μ ∧ (p d = true → fe ρ1 μ = .ok (.v (f d)) μ)) → cLoop t ft fe ρ ds μ acc = .ok (acc ++ (ds.filter p).map f) μ
  | [], acc, _, _ => by simp [cLoop]
  | d :: ds, acc, hl, h => by
    rw [List.length_cons] at hl
    obtain ⟨ρ1, e1, e2, e3⟩ := h d List.mem_cons_self
    have hr := fun x m => h x (List.mem_cons_of_mem d m)
    unfold cLoop
    rw [e1]
    cases q : p d with
    | true =>
      simp only [e2, q, e3 q]
      rw [if_pos (show acc.length < lim by omega), cloop_eq p f ds (acc ++ [f d]) (by rw [List.length_append, List.length_singleton]; omega) hr]
      simp [List.filter_cons, q]
    | false =>
      simp only [e2, q]
      rw [cloop_eq p f ds acc (by omega) hr]
      simp [List.filter_cons, q]
theorem cloop_map {t : CT} {fe : FE} {ρ : Env} {μ : Store} (f : D → D) (ds : List D) (hl : ds.length ≤ lim) (h : ∀ d ∈ ds, ∃ ρ1, t.put d ρ = some ρ1 ∧ fe ρ1 μ = .ok (.v (f d)) μ) : cLoop t fYes fe ρ ds μ [] = .ok (ds.map f) μ := by
  rw [cloop_eq (fun _ => true) f ds [] (by simpa using hl) fun d m => by
    obtain ⟨ρ1, e1, e2⟩ := h d m
    exact ⟨ρ1, e1, rfl, fun _ => e2⟩]
  rw [List.filter_eq_self.mpr fun _ _ => rfl]
  rfl

/-! ### _law_plain: 0 value 1 item -/
def b_plain (rec : List Sl → Store → Out Sl) : FS := sSeq (sIf (fTest (fCall (gc2 isiF) (fCons (fVar 0) (fCons (fTup (fCons (fC (.ty "tuple")) (fCons (fC (.ty "list")) (fNil)))) (fNil))))) (sRet (fBin (fLst false (fCons (fCall (gc2 isiF) (fCons (fVar 0) (fCons (fC (.ty "list")) (fNil)))) (fNil))) (fComp false (([("item", 1)] : List (Str × Nat)).map (·.2)) (fSeq (fVar 0)) (CT.nm 1) (fYes) (fCall (rec) (fCons (fVar 1) (fNil)))) (g2 (addF false)))) (sSkip)) (sSeq (sIf (fOr (fTest (fUn (fVar 0) (isNonF false))) (fTest (fCall (gc2 isiF) (fCons (fVar 0) (fCons (fC (.ty "bool")) (fNil)))))) (sRet (fBin (fLst false (fCons (fC (.str "None")) (fCons (fC (.str "False")) (fCons (fC (.str "True")) (fNil))))) (fBin (fCall (gc1 int1F) (fCons (fUn (fVar 0) (isNonF true)) (fNil))) (fCall (gc1 int1F) (fCons (fBin (fVar 0) (fC (.bl true)) (g2 (isF false))) (fNil))) (g2 (addF false))) (g2 ixF))) (sSkip)) (sSeq (sIf (fTest (fCall (gc2 isiF) (fCons (fVar 0) (fCons (fTup (fCons (fC (.ty "int")) (fCons (fC (.ty "str")) (fNil)))) (fNil))))) (sRet (fLst false (fCons (fCall (gc2 isiF) (fCons (fVar 0) (fCons (fC (.ty "str")) (fNil)))) (fCons (fVar 0) (fNil))))) (sSkip)) (sRet (fC (.str "another")))))
def m_plain : Nat → List Sl → Store → Out Sl
  | 0 => lift fun _ => .stuck
  | k + 1 => lift (pureOf 2 (b_plain (m_plain k)))
mutual
/-- what it tells -/
def plainD : D → D
  | .non => .str "None"
  | .bl b => .str (if b then "True" else "False")
  | .int i => .lst [.bl false, .int i]
  | .str x => .lst [.bl true, .str x]
  | .lst ds => .lst (.bl true :: plainL ds)
  | .tup ds => .lst (.bl false :: plainL ds)
  | _ => .str "another"
def plainL : List D → List D
  | [] => []
  | d :: ds => plainD d :: plainL ds
end
theorem plainL_eq : ∀ ds, plainL ds = ds.map plainD
  | [] => rfl
  | d :: ds => by rw [plainL, plainL_eq ds]; rfl
/-- plain data of depth n at most -/
inductive Pl : Nat → D → Prop
  | non {n} : Pl n .non
  | bl {n} (b : Bool) : Pl n (.bl b)
  | int {n} (i : Int) : Pl n (.int i)
  | str {n} {x : Str} (h : PyData.canLay0 (.str x) = true) : Pl n (.str x)
  | lst {n} {ds : List D} (h : ∀ d ∈ ds, Pl n d) (hl : ds.length < lim) : Pl (n + 1) (.lst ds)
  | tup {n} {ds : List D} (h : ∀ d ∈ ds, Pl n d) (hl : ds.length < lim) : Pl (n + 1) (.tup ds)
theorem lay_None : PyData.canLay0 (.str "None") = true := by decide +kernel
theorem lay_True : PyData.canLay0 (.str "True") = true := by decide +kernel
theorem lay_False : PyData.canLay0 (.str "False") = true := by decide +kernel
theorem Pl.shp {n : Nat} {d : D} (h : Pl n d) : shp n d := by
  induction h with
  | non => exact shp_non _
  | bl b => exact shp_bl _ _
  | int i => exact shp_int _ _
  | str h => exact shp_str h _
  | lst h hl ih => exact shp_lst ih
  | tup h hl ih => exact shp_tup ih
theorem Pl.plain {n : Nat} {d : D} (h : Pl n d) : DL.shp (n + 1) (plainD d) := by
  induction h with
  | non => exact shp_str lay_None _
  | bl b =>
    unfold plainD
    cases b with
    | true => exact shp_str lay_True _
    | false => exact shp_str lay_False _
  | @int n i =>
    unfold plainD
    exact shp_lst fun d m => by
      simp only [List.mem_cons, List.not_mem_nil, or_false] at m
      rcases m with rfl | rfl
      · exact shp_bl _ _
      · exact shp_int _ _
  | @str n x h =>
    unfold plainD
    exact shp_lst fun d m => by
      simp only [List.mem_cons, List.not_mem_nil, or_false] at m
      rcases m with rfl | rfl
      · exact shp_bl _ _
      · exact shp_str h _
  | @lst n ds h hl ih =>
    unfold plainD
    refine shp_lst fun d m => ?_
    rcases List.mem_cons.mp m with rfl | m
    · exact shp_bl _ _
    · rw [plainL_eq] at m
      obtain ⟨x, hx, rfl⟩ := List.mem_map.mp m
      exact ih x hx
  | @tup n ds h hl ih =>
    unfold plainD
    refine shp_lst fun d m => ?_
    rcases List.mem_cons.mp m with rfl | m
    · exact shp_bl _ _
    · rw [plainL_eq] at m
      obtain ⟨x, hx, rfl⟩ := List.mem_map.mp m
      exact ih x hx
theorem plain_eq {n : Nat} {d : D} (h : Pl n d) : ∀ k, n < k → ∀ μ : Store, m_plain k [.v d] μ = .ok (.v (plainD d)) μ := by
  induction h with
  | non => intro k hk μ; obtain ⟨k, rfl⟩ : ∃ j, k = j + 1 := ⟨k - 1, by omega⟩; simp [m_plain, b_plain, bind_ok, bind_exc, st_ok, st_exc, seq_nx, seq_rt, seq_bk, seq_ct, seq_exc, turn_nx, turn_ct, turn_bk, turn_rt, turn_exc, mk_true, mk_false, runS_rt, runS_nx, runS_exc, forL_nil, get_off, get_off0, set_off, set_off0, take_len,  sSeq, sIf, sSkip, sRet, sDrop, sAsg, sFor, sGhost, tFreeze, fTest, fBin, fUn, fCall, fCons, fNil, fVar, fC, fAnd, fOr, fNot, fIf, fLst, fTup, fChain, fAndV, fOrV, gNot, allV, g1, g2, gc1, gc2, Sl.get, okV, gNm, gUnp, gUnpL, gsNil, gsCons,  fSeq, fRng1, fRng2, fEnum, fComp, fYes, CT.put, setAll, wipeE, fMeth, isLst, lstAt, appendG, extendG, popG, popAtG, reverseG, countG, fNo, fPart, fSl, slF, revF, addF, subF, mulF, fdivF, modF, powF, ordF, negF, isNonF, isF, absF, max2F, min2F, int1F, lenF, listF, tupleF, sumF, maxF, minF, ixF,  gSubF, setL, sPar, sAug, runC, lift, pureOf, getAll, allVB, D.nol, D.nolL, startE, isiF, tyName, clsL, clsNm, isiB, eqF_int, neF_int, eqF_ints, neF_ints, eqF_intsT, neF_intsT, plainD]; rfl
  | bl b => intro k hk μ; obtain ⟨k, rfl⟩ : ∃ j, k = j + 1 := ⟨k - 1, by omega⟩; cases b <;> simp [m_plain, b_plain, bind_ok, bind_exc, st_ok, st_exc, seq_nx, seq_rt, seq_bk, seq_ct, seq_exc, turn_nx, turn_ct, turn_bk, turn_rt, turn_exc, mk_true, mk_false, runS_rt, runS_nx, runS_exc, forL_nil, get_off, get_off0, set_off, set_off0, take_len,  sSeq, sIf, sSkip, sRet, sDrop, sAsg, sFor, sGhost, tFreeze, fTest, fBin, fUn, fCall, fCons, fNil, fVar, fC, fAnd, fOr, fNot, fIf, fLst, fTup, fChain, fAndV, fOrV, gNot, allV, g1, g2, gc1, gc2, Sl.get, okV, gNm, gUnp, gUnpL, gsNil, gsCons,  fSeq, fRng1, fRng2, fEnum, fComp, fYes, CT.put, setAll, wipeE, fMeth, isLst, lstAt, appendG, extendG, popG, popAtG, reverseG, countG, fNo, fPart, fSl, slF, revF, addF, subF, mulF, fdivF, modF, powF, ordF, negF, isNonF, isF, absF, max2F, min2F, int1F, lenF, listF, tupleF, sumF, maxF, minF, ixF,  gSubF, setL, sPar, sAug, runC, lift, pureOf, getAll, allVB, D.nol, D.nolL, startE, isiF, tyName, clsL, clsNm, isiB, eqF_int, neF_int, eqF_ints, neF_ints, eqF_intsT, neF_intsT, plainD] <;> rfl
  | int i => intro k hk μ; obtain ⟨k, rfl⟩ : ∃ j, k = j + 1 := ⟨k - 1, by omega⟩; simp [m_plain, b_plain, bind_ok, bind_exc, st_ok, st_exc, seq_nx, seq_rt, seq_bk, seq_ct, seq_exc, turn_nx, turn_ct, turn_bk, turn_rt, turn_exc, mk_true, mk_false, runS_rt, runS_nx, runS_exc, forL_nil, get_off, get_off0, set_off, set_off0, take_len,  sSeq, sIf, sSkip, sRet, sDrop, sAsg, sFor, sGhost, tFreeze, fTest, fBin, fUn, fCall, fCons, fNil, fVar, fC, fAnd, fOr, fNot, fIf, fLst, fTup, fChain, fAndV, fOrV, gNot, allV, g1, g2, gc1, gc2, Sl.get, okV, gNm, gUnp, gUnpL, gsNil, gsCons,  fSeq, fRng1, fRng2, fEnum, fComp, fYes, CT.put, setAll, wipeE, fMeth, isLst, lstAt, appendG, extendG, popG, popAtG, reverseG, countG, fNo, fPart, fSl, slF, revF, addF, subF, mulF, fdivF, modF, powF, ordF, negF, isNonF, isF, absF, max2F, min2F, int1F, lenF, listF, tupleF, sumF, maxF, minF, ixF,  gSubF, setL, sPar, sAug, runC, lift, pureOf, getAll, allVB, D.nol, D.nolL, startE, isiF, tyName, clsL, clsNm, isiB, eqF_int, neF_int, eqF_ints, neF_ints, eqF_intsT, neF_intsT, plainD]
  | str h => intro k hk μ; obtain ⟨k, rfl⟩ : ∃ j, k = j + 1 := ⟨k - 1, by omega⟩; simp [m_plain, b_plain, bind_ok, bind_exc, st_ok, st_exc, seq_nx, seq_rt, seq_bk, seq_ct, seq_exc, turn_nx, turn_ct, turn_bk, turn_rt, turn_exc, mk_true, mk_false, runS_rt, runS_nx, runS_exc, forL_nil, get_off, get_off0, set_off, set_off0, take_len,  sSeq, sIf, sSkip, sRet, sDrop, sAsg, sFor, sGhost, tFreeze, fTest, fBin, fUn, fCall, fCons, fNil, fVar, fC, fAnd, fOr, fNot, fIf, fLst, fTup, fChain, fAndV, fOrV, gNot, allV, g1, g2, gc1, gc2, Sl.get, okV, gNm, gUnp, gUnpL, gsNil, gsCons,  fSeq, fRng1, fRng2, fEnum, fComp, fYes, CT.put, setAll, wipeE, fMeth, isLst, lstAt, appendG, extendG, popG, popAtG, reverseG, countG, fNo, fPart, fSl, slF, revF, addF, subF, mulF, fdivF, modF, powF, ordF, negF, isNonF, isF, absF, max2F, min2F, int1F, lenF, listF, tupleF, sumF, maxF, minF, ixF,  gSubF, setL, sPar, sAug, runC, lift, pureOf, getAll, allVB, D.nol, D.nolL, startE, isiF, tyName, clsL, clsNm, isiB, eqF_int, neF_int, eqF_ints, neF_ints, eqF_intsT, neF_intsT, plainD]
  | @lst n ds h hl ih =>
    intro k hk μ; obtain ⟨k, rfl⟩ : ∃ j, k = j + 1 := ⟨k - 1, by omega⟩
    have c := cloop_map (t := .nm 1) (fe := fCall (m_plain k) (fCons (fVar 1) fNil)) (ρ := [some (.v (.lst ds)), none]) (μ := []) plainD ds (by omega) fun d m => ⟨_, rfl, by
      have := ih d m k (by omega) []
      simp [bind_ok, bind_exc, st_ok, st_exc, seq_nx, seq_rt, seq_bk, seq_ct, seq_exc, turn_nx, turn_ct, turn_bk, turn_rt, turn_exc, mk_true, mk_false, runS_rt, runS_nx, runS_exc, forL_nil, get_off, get_off0, set_off, set_off0, take_len,  sSeq, sIf, sSkip, sRet, sDrop, sAsg, sFor, sGhost, tFreeze, fTest, fBin, fUn, fCall, fCons, fNil, fVar, fC, fAnd, fOr, fNot, fIf, fLst, fTup, fChain, fAndV, fOrV, gNot, allV, g1, g2, gc1, gc2, Sl.get, okV, gNm, gUnp, gUnpL, gsNil, gsCons,  fSeq, fRng1, fRng2, fEnum, fComp, fYes, CT.put, setAll, wipeE, fMeth, isLst, lstAt, appendG, extendG, popG, popAtG, reverseG, countG, fNo, fPart, fSl, slF, revF, addF, subF, mulF, fdivF, modF, powF, ordF, negF, isNonF, isF, absF, max2F, min2F, int1F, lenF, listF, tupleF, sumF, maxF, minF, ixF,  gSubF, setL, sPar, sAug, runC, lift, pureOf, getAll, allVB, D.nol, D.nolL, startE, isiF, tyName, clsL, clsNm, isiB, eqF_int, neF_int, eqF_ints, neF_ints, eqF_intsT, neF_intsT, this]⟩
    have hl' : 1 + ds.length ≤ lim := by omega
    simp [m_plain, b_plain, bind_ok, bind_exc, st_ok, st_exc, seq_nx, seq_rt, seq_bk, seq_ct, seq_exc, turn_nx, turn_ct, turn_bk, turn_rt, turn_exc, mk_true, mk_false, runS_rt, runS_nx, runS_exc, forL_nil, get_off, get_off0, set_off, set_off0, take_len,  sSeq, sIf, sSkip, sRet, sDrop, sAsg, sFor, sGhost, tFreeze, fTest, fBin, fUn, fCall, fCons, fNil, fVar, fC, fAnd, fOr, fNot, fIf, fLst, fTup, fChain, fAndV, fOrV, gNot, allV, g1, g2, gc1, gc2, Sl.get, okV, gNm, gUnp, gUnpL, gsNil, gsCons,  fSeq, fRng1, fRng2, fEnum, fComp, fYes, CT.put, setAll, wipeE, fMeth, isLst, lstAt, appendG, extendG, popG, popAtG, reverseG, countG, fNo, fPart, fSl, slF, revF, addF, subF, mulF, fdivF, modF, powF, ordF, negF, isNonF, isF, absF, max2F, min2F, int1F, lenF, listF, tupleF, sumF, maxF, minF, ixF,  gSubF, setL, sPar, sAug, runC, lift, pureOf, getAll, allVB, D.nol, D.nolL, startE, isiF, tyName, clsL, clsNm, isiB, eqF_int, neF_int, eqF_ints, neF_ints, eqF_intsT, neF_intsT, plainD, plainL_eq, c, hl']
  | @tup n ds h hl ih =>
    intro k hk μ; obtain ⟨k, rfl⟩ : ∃ j, k = j + 1 := ⟨k - 1, by omega⟩
    have c := cloop_map (t := .nm 1) (fe := fCall (m_plain k) (fCons (fVar 1) fNil)) (ρ := [some (.v (.tup ds)), none]) (μ := []) plainD ds (by omega) fun d m => ⟨_, rfl, by
      have := ih d m k (by omega) []
      simp [bind_ok, bind_exc, st_ok, st_exc, seq_nx, seq_rt, seq_bk, seq_ct, seq_exc, turn_nx, turn_ct, turn_bk, turn_rt, turn_exc, mk_true, mk_false, runS_rt, runS_nx, runS_exc, forL_nil, get_off, get_off0, set_off, set_off0, take_len,  sSeq, sIf, sSkip, sRet, sDrop, sAsg, sFor, sGhost, tFreeze, fTest, fBin, fUn, fCall, fCons, fNil, fVar, fC, fAnd, fOr, fNot, fIf, fLst, fTup, fChain, fAndV, fOrV, gNot, allV, g1, g2, gc1, gc2, Sl.get, okV, gNm, gUnp, gUnpL, gsNil, gsCons,  fSeq, fRng1, fRng2, fEnum, fComp, fYes, CT.put, setAll, wipeE, fMeth, isLst, lstAt, appendG, extendG, popG, popAtG, reverseG, countG, fNo, fPart, fSl, slF, revF, addF, subF, mulF, fdivF, modF, powF, ordF, negF, isNonF, isF, absF, max2F, min2F, int1F, lenF, listF, tupleF, sumF, maxF, minF, ixF,  gSubF, setL, sPar, sAug, runC, lift, pureOf, getAll, allVB, D.nol, D.nolL, startE, isiF, tyName, clsL, clsNm, isiB, eqF_int, neF_int, eqF_ints, neF_ints, eqF_intsT, neF_intsT, this]⟩
    have hl' : 1 + ds.length ≤ lim := by omega
    simp [m_plain, b_plain, bind_ok, bind_exc, st_ok, st_exc, seq_nx, seq_rt, seq_bk, seq_ct, seq_exc, turn_nx, turn_ct, turn_bk, turn_rt, turn_exc, mk_true, mk_false, runS_rt, runS_nx, runS_exc, forL_nil, get_off, get_off0, set_off, set_off0, take_len,  sSeq, sIf, sSkip, sRet, sDrop, sAsg, sFor, sGhost, tFreeze, fTest, fBin, fUn, fCall, fCons, fNil, fVar, fC, fAnd, fOr, fNot, fIf, fLst, fTup, fChain, fAndV, fOrV, gNot, allV, g1, g2, gc1, gc2, Sl.get, okV, gNm, gUnp, gUnpL, gsNil, gsCons,  fSeq, fRng1, fRng2, fEnum, fComp, fYes, CT.put, setAll, wipeE, fMeth, isLst, lstAt, appendG, extendG, popG, popAtG, reverseG, countG, fNo, fPart, fSl, slF, revF, addF, subF, mulF, fdivF, modF, powF, ordF, negF, isNonF, isF, absF, max2F, min2F, int1F, lenF, listF, tupleF, sumF, maxF, minF, ixF,  gSubF, setL, sPar, sAug, runC, lift, pureOf, getAll, allVB, D.nol, D.nolL, startE, isiF, tyName, clsL, clsNm, isiB, eqF_int, neF_int, eqF_ints, neF_ints, eqF_intsT, neF_intsT, plainD, plainL_eq, c, hl']
/-! ### slices -/
theorem cut_lo {xs : List D} {i : Int} {k : Nat} (h : i = k) : cutD xs (some i) none = xs.drop k := by
  subst h
  unfold cutD
  rw [HT.sIx_nat, HT.sIx_none]
  by_cases hk : k ≤ xs.length
  · rw [Nat.min_eq_left hk, List.take_of_length_le (by rw [List.length_drop]; omega)]
  · rw [Nat.min_eq_right (by omega), List.drop_of_length_le (by omega), List.drop_of_length_le (i := k) (by omega)]
    simp
theorem cut_hi {xs : List D} {i : Int} {k : Nat} (h : i = k) : cutD xs none (some i) = xs.take k := by
  subst h
  unfold cutD
  rw [HT.sIx_nat, HT.sIx_none, List.drop_zero, Nat.sub_zero]
  by_cases hk : k ≤ xs.length
  · rw [Nat.min_eq_left hk]
  · rw [Nat.min_eq_right (by omega), List.take_of_length_le (Nat.le_refl _), List.take_of_length_le (by omega)]
theorem cut_lh {xs : List D} {i j : Int} {a b : Nat} (h : i = a) (h2 : j = b) (l : b ≤ xs.length) : cutD xs (some i) (some j) = (xs.drop a).take (b - a) := by
  subst h h2
  unfold cutD
  rw [HT.sIx_nat, HT.sIx_nat, Nat.min_eq_left l]
  by_cases hk : a ≤ xs.length
  · rw [Nat.min_eq_left hk]
  · rw [Nat.min_eq_right (by omega), List.drop_of_length_le (Nat.le_refl _), List.drop_of_length_le (i := a) (by omega)]
    simp
theorem cut_no {xs : List D} : cutD xs none none = xs := by
  unfold cutD
  rw [HT.sIx_none, HT.sIx_none, List.drop_zero, Nat.sub_zero, List.take_of_length_le (Nat.le_refl _)]
theorem lay_str {x : Str} (h : PyData.canLay0 (.str x) = true) : PyData.canLay0 (.str x) = true := h
theorem eqF_str {μ : Store} {x y : Str} (hx : PyData.canLay0 (.str x) = true) (hy : PyData.canLay0 (.str y) = true) : eqF (.str x) (.str y) μ = .ok (.v (.bl (x == y))) μ := eqF_of (shp_str hx _) (shp_str hy _) (by simp only [D.py, PyData.eqv])
theorem inD_cons {x d : D} {ds : List D} : inD x (d :: ds) = (PyData.eqv d.py x.py || inD x ds) := rfl
theorem inD_nil {x : D} : inD x [] = false := rfl
end DL

namespace DL
open PySem PySem.Spec PyProof.Rows L2
/-! ### sorted(xs[, reverse=b]): of a list, of a tuple -/
section
variable {prog : Program} {w : World} {A : Around} {E : Value → Shared → Prop} {s : Shared}
open PySem.W in
/-- the items of a tuple, put into a new list -/
theorem coll_tup {l : Addr} {o : Obj} {n : Nat} {vs : List Value} {Q : List Value → Shared → Prop} (ho : s.heap.get? l = some o) (hc : o.cls = .type "tuple") (hd : o.data = .seq vs.toArray n) (hz : vs.length ≤ sizeLine)
    (h : Q vs { s with heap := (s.heap.push (seqObj "list" #[] 0)).update s.heap.objs.size (Obj.mapSeq (· ++ vs.toArray)) }) : wpAny (model prog w) A (collect (.ref l)) Q E s := by
  unfold collect; refine wpAny_bind (wpAny_runValue (codeAny_builtin entry_proto_collect' ?_))
  have ho' := Heap.get?_push_of_some (seqObj "list" #[] 0) ho
  show wpAny _ _ (do again (.builtin "list.__iadd__" ⟨[← newList [], .ref l], []⟩)) _ _ s; refine wpAny_bind (wpAny_newList (wpAny_pure ⟨Code.quiet_builtin _ (by decide +kernel), codeAny_builtin entry_list_iadd' ?_⟩))
  show wpAny _ _ (Builtin.List.listExtendWith (.ref s.heap.objs.size) (.ref l) (.ref s.heap.objs.size)) _ _ { s with heap := s.heap.push (seqObj "list" #[] 0) }; unfold Builtin.List.listExtendWith
  refine wpAny_bind (wpAny_typeOf (T := "tuple") ⟨o, ho', hc⟩ ?_); rw [if_pos (by simp)]
  refine wpAny_bind (listItems_at ho' hd (wpAny_bind (listItems_at (xs := #[]) (n := 0) (Heap.get?_push_size _ rfl) rfl ?_))); rw [if_neg (by simp)]
  refine wpAny_bind (listUpdate_at (xs := #[]) (n := 0) (Heap.get?_push_size _ rfl) rfl (wpAny_pure ?_) (Nat.zero_le _) (by show (#[] ++ vs.toArray).size ≤ _; simp; omega))
  refine wpAny_bind (wpAny_load (get?_update_seq (Heap.get?_push_size _ rfl) _) ?_); show wpAny _ _ (pure ((#[] : Array Value) ++ vs.toArray).toList) Q E _
  have e : ((#[] : Array Value) ++ vs.toArray).toList = vs := by simp
  rw [e]; exact wpAny_pure h
/-- a list or a tuple that holds vs -/
def SrcOf (h : Heap) (l : Addr) (vs : List Value) : Prop := h.IsList l vs.toArray ∨ ∃ o n, h.get? l = some o ∧ o.cls = .type "tuple" ∧ o.data = .seq vs.toArray n
open PySem.W in
theorem coll_src {l : Addr} {vs : List Value} {Q : List Value → Shared → Prop} (hl : SrcOf s.heap l vs) (hz : vs.length ≤ sizeLine)
    (h : Q vs { s with heap := (s.heap.push (seqObj "list" #[] 0)).update s.heap.objs.size (Obj.mapSeq (· ++ vs.toArray)) }) : wpAny (model prog w) A (collect (.ref l)) Q E s := by
  rcases hl with hl | ⟨o, n, ho, hc, hd⟩
  · exact collect_list hl h hz
  · exact coll_tup ho hc hd hz h
open PySem.W in
theorem sort_src {l : Addr} {vs : List Value} {kw : List (Str × Value)} {Q : Value → Shared → Prop} (hl : SrcOf s.heap l vs) (hL : vs.length ≤ sizeLine) (ha1 : argsOk "sorted" ⟨[.ref l], kw⟩) (ha2 : ∀ x, argsOk "list.sort" ⟨[.ref x], kw⟩)
    (body : ∀ E' : Value → Shared → Prop, wpAny (model prog w) A.in1.in1 (Builtin.«list.sort» ⟨[.ref (s.heap.objs.size + 1)], kw⟩) (fun f s' => f = .done (.ret .none) ∧ Q (.ref (s.heap.objs.size + 1)) s') E' { s with heap := copyHeap s.heap vs }) :
    wpAny (model prog w) A (call (.builtin "sorted") [.ref l] kw) Q E s := by
  refine call_function_entry_kw kind_sorted plain_sorted entry_sorted ha1 (?_ : wpAny _ _ (Builtin.«sorted» _) _ _ _)
  unfold Builtin.«sorted»; refine wpAny_bind (m := checkCount "sorted" 1 1 _) (wpAny_pure (wpAny_bind (coll_src hl hL (wpAny_bind (wpAny_newList ?_ hL)))))
  have sz1 : ((s.heap.push (seqObj "list" #[] 0)).update s.heap.objs.size (Obj.mapSeq (· ++ vs.toArray))).objs.size = s.heap.objs.size + 1 := (Heap.size_update _ _ _).trans (size_push' _ _)
  show wpAny _ _ _ _ _ { s with heap := copyHeap s.heap vs }; rw [sz1]
  refine wpAny_bind (wpAny_holding (wpAny_call_entry_kw slot_list_sort ⟨_, copyHeap_at s.heap vs, rfl⟩ entry_list_sort (show wpAny (model prog w) A.in1.in1 (Builtin.«list.sort» ⟨[.ref (s.heap.objs.size + 1)], kw⟩) _ _ _ from wpAny_mono (body _) (fun f s' hf => ?_) fun _ _ e => e) (ha2 _)))
  obtain ⟨rfl, hq⟩ := hf; exact ⟨_, rfl, wpAny_pure ⟨_, rfl, hq⟩⟩
/-- how sorted is called: plainly, or with reverse=b -/
def kwOf : Option Bool → List (Str × Value)
  | none => []
  | some b => [(Str.ofString "reverse", .bool b)]
open PySem.W in
theorem sort_data {β : Type} {R : Value → β → Prop} {enc : β → PyData} {bs : List β} {l : Addr} {vs : List Value} (ob : Option Bool) {Q : Value → Shared → Prop} (hl : SrcOf s.heap l vs) (e : EachIs R vs bs) (er : EachIs (fun v b => ∃ as, Reads s.heap v (enc b) as) vs bs) (hal : AllAlike (bs.map enc)) (hk : Sortable (bs.map enc)) (hL : bs.length ≤ sizeLine)
    (hu : ∀ b, b ∈ bs → A.units + 2 + (enc b).depth < cLine) (h : ∀ out, out.length = bs.length → EachIs R out (bs.mergeSort (dataLe (ob.getD false) enc)) → Q (.ref (s.heap.objs.size + 1)) { s with heap := sortedAll s.heap vs (List.toArray out) }) :
    wpAny (model prog w) A (call (.builtin "sorted") [.ref l] (kwOf ob)) Q E s := by
  have ek : EachIs (fun v b => ∃ as, Reads (sortingHeap (copyHeap s.heap vs) (s.heap.objs.size + 1) vs) v (enc b) as) vs bs := er.mono fun _ _ ⟨as, r⟩ => ⟨as, PyProof.Rows.Reads.keeps (fun _ _ => sorting_copy_old) r⟩
  have S := SortsAt.data (prog := prog) (w := w) (A := A.in1.in1) (s := { s with heap := sortingHeap (copyHeap s.heap vs) (s.heap.objs.size + 1) vs }) (each_map (R := fun v d => ∃ as, Reads (sortingHeap (copyHeap s.heap vs) (s.heap.objs.size + 1) vs) v d as) enc ek) hal hk (bound_map (A := A.in1.in1) hu)
  have hLv : vs.length ≤ sizeLine := by rw [e.length]; exact hL
  cases ob with
  | none => exact sort_src hl hLv (args_sorted1 _) (fun _ => args_list_sort _) fun _ => list_sort_vals (s := { s with heap := copyHeap s.heap vs }) (copyHeap_at s.heap vs) S hLv ⟨rfl, h _ (by rw [sortVals_length false rfl]; exact e.length) (sortVals_data false e ek hal)⟩
  | some b => exact sort_src hl hLv (args_sorted_rev _ _) (fun _ => args_list_sort_rev _ _) fun _ => list_sort_rev_vals (s := { s with heap := copyHeap s.heap vs }) (copyHeap_at s.heap vs) S hLv ⟨rfl, h _ (by rw [sortVals_length b rfl]; exact e.length) (sortVals_data b e ek hal)⟩
end
theorem srcL {X : Cx} {pins : List (Addr × Obj)} {σ : L2.St} {H : Hp} {s : Shared} {a : Addr} {xs : List V} (I : Inv X pins σ H s) (h : SqL X.K H a xs ∨ SqT X.K H a xs) : ∃ its : List Value, Vals xs its ∧ SrcOf s.heap a its ∧ xs.length ≤ sizeLine := by
  rcases h with h | h
  · obtain ⟨its, rv, hl, hz⟩ := I.list h
    exact ⟨its, rv, .inl hl.isList, hz⟩
  · obtain ⟨its, rv, ⟨o, e, c, n, d⟩, hz⟩ := I.tuple h
    exact ⟨its, rv, .inr ⟨o, n, e, c, d⟩, hz⟩
def rSort2 (K : PySem.W.Frag) (b : Bool) : List V → Hp → VK → Prop := fun vs H Q => ∃ (a : Addr) (xs : List V) (ds : List D) (Rv : D → V → Prop), vs = [.ref a] ∧ (SqL K H a xs ∨ SqT K H a xs) ∧ Paired Rv ds xs ∧ (∀ d v, Rv d v → Dp K H v d.py) ∧
  PySem.W.AllAlike (ds.map D.py) ∧ PySem.W.Sortable (ds.map D.py) ∧ (∀ d ∈ ds, d.py.depth ≤ 64) ∧
  ∀ ys p, Paired Rv (ds.mergeSort (PySem.W.dataLe b D.py)) ys → H p = none → Q (.ref p) (upd H p (.lst ys))
theorem sort2_run {X : Cx} (hu : X.A.units + 70 < cLine) (ob : Option Bool) {pins : List (Addr × Obj)} {s : Shared} {σ : L2.St} {H : Hp} {vs : List V} {us : List Value} {Q : VK} (I : Inv X pins σ H s) (r : Vals vs us) (h : rSort2 X.K (ob.getD false) vs H Q) :
    wpAny (model X.prog X.w) X.A (call (.builtin "sorted") us (kwOf ob)) (EP X pins σ Q) X.xe s := by
  obtain ⟨a, xs, ds, Rv, rfl, hs, hp, hd, hal, hso, hdep, q⟩ := h
  obtain ⟨its, rv, hl, hz⟩ := srcL I hs
  rw [Vals.ref1 r]
  have e0 := each_of (X := X) (pins := pins) (σ := σ) (H := H) (s := s) hp rv
  refine sort_data (enc := D.py) ob hl e0 (EachIs.mono' e0 fun u d ⟨v, r, h⟩ => Dp.reads I _ _ _ (hd _ _ h) r) hal hso (by rw [hp.length]; exact hz) (fun b hb => by have := hdep b hb; omega) fun out hlen he => ?_
  obtain ⟨ys, r2, p2⟩ := of_each he
  obtain ⟨ep, he'⟩ := PyProof.Rows.sortedAll_at s.heap its out.toArray
  refine ⟨.ref _, upd H (s.heap.objs.size + 1) (.lst ys), I.laid (t' := s.toks) (fun _ _ => PyProof.Rows.sortedAll_old) (Nat.le_succ _) ⟨?_, out, ep, r2, he'⟩, rfl, q ys _ p2 (I.hok.fresh (Nat.le_succ _))⟩
  rw [r2.length, hlen, hp.length]
  exact hz
theorem cr_sort2 {X : Cx} (hu : X.A.units + 70 < cLine) : CallR X (.builtin "sorted") (rSort2 X.K false) := fun pins s σ H vs us Q I r h => sort2_run hu none I r h
theorem crk_sort2 {X : Cx} (hu : X.A.units + 70 < cLine) (b : Bool) : CallRK X (.builtin "sorted") [Str.ofString "reverse"] (fun vs zs H Q => zs = [.bl b] ∧ rSort2 X.K b vs H Q) := by
  intro pins s σ H vs zs us ws Q I r rz h
  obtain ⟨rfl, h⟩ := h
  obtain ⟨w1, rfl, e1⟩ := vals1 rz
  obtain rfl : w1 = Value.bool b := e1
  exact sort2_run hu (some b) I r h
def sortDr (b : Bool) (ds : List D) : List D := ds.mergeSort (PySem.W.dataLe b D.py)
def seqOf : D → Option (List D)
  | .lst ds => some ds
  | .tup ds => some ds
  | .fz ds => some ds
  | _ => none
theorem Now.seq {K : PySem.W.Frag} {F : Addr → Prop} {H : Hp} {d : D} {v : V} {ds : List D} (h : Now K F H d v) (e : seqOf d = some ds) : ∃ a xs, v = .ref a ∧ (SqL K H a xs ∨ SqT K H a xs) ∧ RepL K F H ds xs := by
  cases d with
  | lst es => cases e; obtain ⟨a, xs, e1, h1, r⟩ := h.lst; exact ⟨a, xs, e1, .inl (.of h1), r⟩
  | tup es => cases e; obtain ⟨a, xs, e1, h1, r⟩ := h.tup; exact ⟨a, xs, e1, .inr h1.sq, r⟩
  | fz es => cases e; obtain ⟨a, xs, e1, h1, r⟩ := h.fz; exact ⟨a, xs, e1, .inl h1, r⟩
  | _ => cases e
def sortF2 (nb b : Bool) : D → Store → Out Sl := fun d μ => match seqOf d with
  | some ds => if sortOk ds = true then mk nb (.lst (sortDr b ds)) μ else .stuck
  | none => .stuck
theorem cld_sort2 {K : PySem.W.Frag} (nb b : Bool) : CallD K (rSort2 K b) (gc1 (sortF2 nb b)) := cld1 fun G μ H σ W a x Q R ra p => by
  unfold sortF2 at p
  cases es : seqOf a with
  | none => rw [es] at p; exact p.elim
  | some ds =>
    rw [es] at p
    simp only at p
    obtain ⟨c, xs, rfl, hb, r⟩ := ra.seq es
    by_cases hk : sortOk ds = true
    · rw [if_pos hk] at p
      obtain ⟨h1, h2⟩ := Bool.and_eq_true_iff.mp hk
      obtain ⟨h3, h4⟩ := Bool.and_eq_true_iff.mp h2
      have sh : ∀ d ∈ ds, SeqAt.shaped d.py = true := fun d m => List.all_eq_true.mp h1 d m
      refine ⟨c, xs, ds, fun d v => Rep K G.F H d v ∧ SeqAt.shaped d.py = true, rfl, hb, paired_and r.paired sh, fun d v q => q.1.dp (SeqAt.canLay_of_shaped q.2), ?_, ?_, fun d m => SeqAt.depth_of_shaped (sh d m), fun ys q hy hq => ?_⟩
      · intro d hd d' hd'
        obtain ⟨u, m, rfl⟩ := List.mem_map.mp hd
        obtain ⟨v, n, rfl⟩ := List.mem_map.mp hd'
        exact List.all_eq_true.mp (List.all_eq_true.mp h3 u m) v n
      · rcases Bool.or_eq_true_iff.mp h4 with z | z
        · refine .inl fun d hd => ?_
          obtain ⟨u, m, rfl⟩ := List.mem_map.mp hd
          have w := List.all_eq_true.mp z u m
          unfold isTN at w
          split at w
          · rename_i x r e
            exact ⟨x, r, e⟩
          · cases w
        · refine .inr fun d hd => ?_
          obtain ⟨u, m, rfl⟩ := List.mem_map.mp hd
          have w := List.all_eq_true.mp z u m
          constructor
          · intro e; rw [e] at w; cases w
          · intro xs e; rw [e] at w; cases w
      · exact Post.mkL R p hq (RepL.ofPaired (Paired.mapP hy fun _ _ q => q.1))
    · rw [if_neg hk] at p
      exact p.elim
section
variable {X : Cx} {P : PX} {W : WX} {a b c e : Expr} {es : List Expr} {fa fb fc : FE} {ft fu : FT} {fg : FA} {pos p : Pos}
/-- sorted(e, reverse=b) -/
theorem de_sortRev (nb b : Bool) {j : Nat} {kp kpos : Pos} (hu : X.A.units + 70 < cLine) (hg : Gl X "sorted") (hm : X.mg "sorted" = none) (ha : DA X P W [e] fg) (h1 : backTo pos (starEach [e] X.env) = (false, eval e X.env) :: backTo pos (starEach [] X.env) := by rfl) (h2 : (backTo pos (starEach [e] X.env)).any (·.1) = false := by rfl) :
    DE X P W (.Call (.Name "sorted" p) [e] [⟨some "reverse", .Constant (.bool b) j kp, kpos⟩] pos) (fCall (gc1 (sortF2 nb b)) fg) :=
  (pe_callBK (crk_sort2 hu b) hg hm PyProof.Rows.boot_sorted ha.pa (pk_cons (pe_bl (b := b)) pk_nil) (he := h1) (hpl := h2)).to fun σ H Q h => by
    obtain ⟨G, μ, ρ, he, h⟩ := h
    exact ⟨G, μ, ρ, he, Post.bind h fun ss μ1 vs G1 H1 x1 R1 r1 h3 => ⟨rfl, cld_sort2 nb b G1 μ1 H1 σ W ss vs Q R1 r1 h3⟩⟩
end
end DL

namespace DL
open PySem PySem.Spec PyProof.Rows L2
section
variable {X : Cx} {P : PX} {W : WX} {a b c e tg : Expr} {es : List Expr} {fa fb fc : FE} {ft fu : FT} {fg : FA} {pos p : Pos}
/-! ### list(range(..)), tuple(range(..)) -/
theorem rep_rg {K : PySem.W.Frag} {F : Addr → Prop} {H : Hp} (i j : Int) : RepL K F H (rangeD i (j - i).toNat) (rgV i j) := by
  unfold rangeD rgV
  generalize List.range (j - i).toNat = l
  induction l with
  | nil => exact .nil
  | cons k l ih => exact .cons (.int _) ih
def rgB (i j : Int) : Bool := decide (i.natAbs ≤ 8000000) && decide (j.natAbs ≤ 8000000)
theorem rgB_ok {i j : Int} (h : rgB i j = true) : RgOk i j := by
  unfold rgB at h
  simp only [Bool.and_eq_true, decide_eq_true_eq] at h
  have e : (2 : Int) ^ 62 = 4611686018427387904 := by decide
  have e2 : (2 : Nat) ^ 24 = 16777216 := by decide
  unfold RgOk
  rw [e, e2]
  refine ⟨?_, ?_, ?_, ?_, ?_⟩ <;> omega
theorem rgB_small {i j : Int} (h1 : 0 ≤ i) (h2 : i ≤ 8000000) (h3 : 0 ≤ j) (h4 : j ≤ 8000000) : rgB i j = true := by
  unfold rgB
  simp only [Bool.and_eq_true, decide_eq_true_eq]
  omega
def fRgA (f : FE) (k : Int → Int → Store → Out Sl) : FE := fun ρ μ => (f ρ μ).bind fun s μ1 => match s with
  | .v (.int j) => if rgB 0 j = true then k 0 j μ1 else .stuck
  | _ => .stuck
def fRgB (f g : FE) (k : Int → Int → Store → Out Sl) : FE := fun ρ μ => (f ρ μ).bind fun s μ1 => (g ρ μ1).bind fun t μ2 => match s, t with
  | .v (.int i), .v (.int j) => if rgB i j = true then k i j μ2 else .stuck
  | _, _ => .stuck
def rgL (nb : Bool) (i j : Int) (μ : Store) : Out Sl := mk nb (.lst (rangeD i (j - i).toNat)) μ
def rgT (i j : Int) (μ : Store) : Out Sl := okV (.tup (rangeD i (j - i).toNat)) μ
/-- what the range's reader asks -/
def RgK (K : PySem.W.Frag) (k : Int → Int → Store → Out Sl) (r : Int → Int → Hp → VK → Prop) : Prop := ∀ (G : Gh) (μ : Store) (H : Hp) (σ : L2.St) (W : WX) (i j : Int) (Q : VK), Rel K G μ H → rgB i j = true → Post (SlRep K) K W σ G H (k i j μ) Q → r i j H Q
theorem TD.rgA {K : PySem.W.Frag} {k : Int → Int → Store → Out Sl} {r : Int → Int → Hp → VK → Prop} (hk : RgK K k r) : ∀ σ H Q, TD K P W (fRgA fa k) σ H Q → tRg1 (TD K P W fa) σ H fun i j H1 => r i j H1 Q := by
  rintro σ H Q ⟨G, μ, ρ, he, h⟩
  refine ⟨G, μ, ρ, he, Post.bind h fun s μ1 x G1 H1 x1 R1 r1 h1 => ?_⟩
  match s, r1, h1 with
  | .v (.int j), r1, h1 =>
    cases r1
    by_cases hb : rgB 0 j = true
    · simp only [if_pos hb] at h1
      exact ⟨j, rfl, hk G1 μ1 H1 σ W 0 j Q R1 hb h1⟩
    · simp only [if_neg hb] at h1; exact h1.elim
theorem TD.rgB {K : PySem.W.Frag} {k : Int → Int → Store → Out Sl} {r : Int → Int → Hp → VK → Prop} (hk : RgK K k r) : ∀ σ H Q, TD K P W (fRgB fa fb k) σ H Q → tRg2 (TD K P W fa) (TD K P W fb) σ H fun i j H1 => r i j H1 Q := by
  rintro σ H Q ⟨G, μ, ρ, he, h⟩
  refine ⟨G, μ, ρ, he, Post.bind h fun s μ1 x G1 H1 x1 R1 r1 h1 => ⟨G1, μ1, ρ, he.step x1 R1, Post.bind h1 fun t μ2 y G2 H2 x2 R2 r2 h2 => ?_⟩⟩
  match s, t, r1, r2, h2 with
  | .v (.int i), .v (.int j), r1, r2, h2 =>
    cases r1; cases r2
    by_cases hb : DL.rgB i j = true
    · simp only [if_pos hb] at h2
      exact ⟨i, j, rfl, rfl, hk G2 μ2 H2 σ W i j Q R2 hb h2⟩
    · simp only [if_neg hb] at h2; exact h2.elim
theorem rgk_L {K : PySem.W.Frag} (nb : Bool) : RgK K (rgL nb) (fun i j H1 Q => RgOk i j ∧ ∀ q, H1 q = none → Q (.ref q) (upd H1 q (.lst (rgV i j)))) := fun G μ H σ W i j Q R hb h => ⟨rgB_ok hb, fun q hq => Post.mkL R h hq (rep_rg i j)⟩
theorem rgk_T {K : PySem.W.Frag} : RgK K rgT (fun i j H1 Q => RgOk i j ∧ ∀ q o, H1 q = none → Sol o → Q (.ref q) (upd H1 q (.frz o (.tup (rgV i j))))) := fun G μ H σ W i j Q R hb h => ⟨rgB_ok hb, fun q o hq so => Post.mkT R h hq so (rep_rg i j)⟩
theorem de_lrg1 (nb : Bool) {q q2 : Pos} (hc : X.calm = true) (hg : Gl X "list") (hm : X.mg "list" = none) (hg2 : Gl X "range") (hm2 : X.mg "range" = none) (ha : DE X P W a fa) (na : starEach [a] X.env = (false, eval a X.env) :: starEach [] X.env := by rfl)
    (nb2 : starEach [.Call (.Name "range" q) [a] [] q2] X.env = (false, eval (.Call (.Name "range" q) [a] [] q2) X.env) :: starEach [] X.env := by rfl) : DE X P W (.Call (.Name "list" p) [.Call (.Name "range" q) [a] [] q2] [] pos) (fRgA fa (rgL nb)) :=
  (pe_listRg hc hg hm (prg_1 hg2 hm2 ha na) nb2).to fun σ H Q h => TD.rgA (rgk_L nb) σ H Q h
theorem de_lrg2 (nb : Bool) {q q2 : Pos} (hc : X.calm = true) (hg : Gl X "list") (hm : X.mg "list" = none) (hg2 : Gl X "range") (hm2 : X.mg "range" = none) (ha : DE X P W a fa) (hb : DE X P W b fb) (na : starEach [a, b] X.env = (false, eval a X.env) :: starEach [b] X.env := by rfl) (na2 : starEach [b] X.env = (false, eval b X.env) :: starEach [] X.env := by rfl) (np : (backTo q2 (starEach [b] X.env)).any (·.1) = false := by rfl)
    (nb2 : starEach [.Call (.Name "range" q) [a, b] [] q2] X.env = (false, eval (.Call (.Name "range" q) [a, b] [] q2) X.env) :: starEach [] X.env := by rfl) : DE X P W (.Call (.Name "list" p) [.Call (.Name "range" q) [a, b] [] q2] [] pos) (fRgB fa fb (rgL nb)) :=
  (pe_listRg hc hg hm (prg_2 hg2 hm2 ha hb na na2 np) nb2).to fun σ H Q h => TD.rgB (rgk_L nb) σ H Q h
theorem de_trg1 {q q2 : Pos} (hc : X.calm = true) (hg : Gl X "tuple") (hm : X.mg "tuple" = none) (hg2 : Gl X "range") (hm2 : X.mg "range" = none) (ha : DE X P W a fa) (na : starEach [a] X.env = (false, eval a X.env) :: starEach [] X.env := by rfl)
    (nb2 : starEach [.Call (.Name "range" q) [a] [] q2] X.env = (false, eval (.Call (.Name "range" q) [a] [] q2) X.env) :: starEach [] X.env := by rfl) : DE X P W (.Call (.Name "tuple" p) [.Call (.Name "range" q) [a] [] q2] [] pos) (fRgA fa rgT) :=
  (pe_tupRgS hc hg hm (prg_1 hg2 hm2 ha na) nb2).to fun σ H Q h => TD.rgA rgk_T σ H Q h
theorem de_trg2 {q q2 : Pos} (hc : X.calm = true) (hg : Gl X "tuple") (hm : X.mg "tuple" = none) (hg2 : Gl X "range") (hm2 : X.mg "range" = none) (ha : DE X P W a fa) (hb : DE X P W b fb) (na : starEach [a, b] X.env = (false, eval a X.env) :: starEach [b] X.env := by rfl) (na2 : starEach [b] X.env = (false, eval b X.env) :: starEach [] X.env := by rfl) (np : (backTo q2 (starEach [b] X.env)).any (·.1) = false := by rfl)
    (nb2 : starEach [.Call (.Name "range" q) [a, b] [] q2] X.env = (false, eval (.Call (.Name "range" q) [a, b] [] q2) X.env) :: starEach [] X.env := by rfl) : DE X P W (.Call (.Name "tuple" p) [.Call (.Name "range" q) [a, b] [] q2] [] pos) (fRgB fa fb rgT) :=
  (pe_tupRgS hc hg hm (prg_2 hg2 hm2 ha hb na na2 np) nb2).to fun σ H Q h => TD.rgB rgk_T σ H Q h

/-! ### range(i, j, -1) -/
def downD (lo : Int) (n : Nat) : List D := (List.range n).map fun i => D.int (lo - (i : Nat))
theorem Itc.ok {K : PySem.W.Frag} {G : Gh} {H : Hp} (lo : Int) (n : Nat) : ItOk K G H (.vals (downD lo n)) (Itc lo (-1) n) := by
  intro G' μ' H' i x R'
  show match some (downD lo n)[i]? with
    | none => True
    | some none => _
    | some (some d) => _
  unfold downD
  rw [List.getElem?_map]
  by_cases hi : i < n
  · rw [List.getElem?_range hi]
    exact ⟨hi, fun y H'' ⟨e1, e2⟩ => by subst e1 e2; rw [show lo + (i : Nat) * (-1 : Int) = lo - (i : Nat) by omega]; exact ⟨G', .refl, R', .int _⟩⟩
  · rw [List.getElem?_eq_none (by simpa using hi)]
    exact Nat.le_of_not_lt hi
def fRng3 (f : FA) : FI := fun ρ μ => (f ρ μ).bind fun ss μ1 => match ss with
  | [.v (.int i), .v (.int j), .v (.int c)] => if c = -1 ∧ i.natAbs < 2 ^ 61 ∧ j.natAbs < 2 ^ 61 then .ok (.vals (downD i (i - j).toNat)) μ1 else .stuck
  | _ => .stuck
theorem di_range3 (hg : Gl X "range") (hm : X.mg "range" = none) (ha : DA X P W [a, b, c] fg) (hs : starEach [a, b, c] X.env = (false, eval a X.env) :: starEach [b, c] X.env := by rfl) (hpl : (backTo pos (starEach [b, c] X.env)).any (·.1) = false := by rfl) :
    DI X P W tg (.Call (.Name "range" p) [a, b, c] [] pos) (fRng3 fg) := (pi_range3 hg hm ha.pa hs hpl).to fun σ H Rr h => by
  obtain ⟨G, μ, ρ, he, h⟩ := h
  refine ⟨G, μ, ρ, he, Post.bind h fun ss μ1 vs G1 H1 x1 R1 r1 h1 => ?_⟩
  match ss, vs, r1, h1 with
  | [.v (.int i), .v (.int j), .v (.int c)], [_, _, _], .cons q (.cons q2 (.cons q3 .nil)), h1 =>
    cases q; cases q2; cases q3
    by_cases hl : c = -1 ∧ i.natAbs < 2 ^ 61 ∧ j.natAbs < 2 ^ 61
    · simp only [if_pos hl] at h1
      obtain ⟨rfl, h2, h3⟩ := hl
      exact ⟨i, j, -1, (i - j).toNat, rfl, RgC.neg (by omega) (by omega) (by omega) (by omega), h1 _ G1 H1 .refl R1 (Itc.ok i _)⟩
    · simp only [if_neg hl] at h1; exact h1.elim

/-! ### zip(xs, ys) -/
def zipD : List D → List D → List D
  | d :: ds, e :: es => .tp [d, e] :: zipD ds es
  | _, _ => []
theorem zipD_get : ∀ (ds es : List D) (i : Nat), (zipD ds es)[i]? = match ds[i]?, es[i]? with
    | some d, some e => some (.tp [d, e])
    | _, _ => none
  | [], _, i => by simp [zipD]
  | _ :: _, [], i => by cases i <;> simp [zipD]
  | d :: ds, e :: es, 0 => by simp [zipD]
  | d :: ds, e :: es, i + 1 => by
    show (zipD ds es)[i]? = _
    rw [zipD_get ds es i]
    rfl
/-- a frozen list, its places for good -/
theorem Rep.stL {K : PySem.W.Frag} {G : Gh} {μ : Store} {H : Hp} (R : Rel K G μ H) {ds : List D} {v : V} {d : D} (h : Rep K G.F H d v) (e : d = .lst ds ∨ d = .fz ds) : ∃ a xs, v = .ref a ∧ (∀ G' H', Ext G H G' H' → SqL K H' a xs) ∧ RepL K G.F H ds xs := by
  rcases e with e | e
  · subst e
    cases h with
    | lst f h r => exact ⟨_, _, rfl, fun G' H' x => .of (R.hk x _ _ h (.inl f)), r⟩
  · subst e
    cases h with
    | fz h r => exact ⟨_, _, rfl, fun G' H' x => (fzAt_mono (R.hk x) h).sq, r⟩
theorem Rep.stT {K : PySem.W.Frag} {G : Gh} {μ : Store} {H : Hp} (R : Rel K G μ H) {ds : List D} {v : V} (h : Rep K G.F H (.tup ds) v) : ∃ a xs, v = .ref a ∧ (∀ G' H', Ext G H G' H' → SqT K H' a xs) ∧ RepL K G.F H ds xs := by
  cases h with
  | tup h r => exact ⟨_, _, rfl, fun G' H' x => (tupAt_mono (R.hk x) h).sq, r⟩
/-- two lists, two tuples -/
def zipF : List Sl → Option (Bool × List D × List D)
  | [.v (.lst a), .v (.lst b)] => some (true, a, b)
  | [.v (.fz a), .v (.lst b)] => some (true, a, b)
  | [.v (.lst a), .v (.fz b)] => some (true, a, b)
  | [.v (.tup a), .v (.tup b)] => some (false, a, b)
  | _ => none
def fZip (f : FA) : FI := fun ρ μ => (f ρ μ).bind fun ss μ1 => match zipF ss with
  | some (_, a, b) => .ok (.vals (zipD a b)) μ1
  | none => .stuck
theorem Itz.ok {K : PySem.W.Frag} {G : Gh} {H : Hp} {μ : Store} (R : Rel K G μ H) {p q : Addr} {ds es : List D} {xs ys : List V} (h1 : ∀ G' H', Ext G H G' H' → SqL K H' p xs) (h2 : ∀ G' H', Ext G H G' H' → SqL K H' q ys) (r1 : RepL K G.F H ds xs) (r2 : RepL K G.F H es ys) : ItOk K G H (.vals (zipD ds es)) (Itz K p q) := by
  intro G' μ' H' i x R'
  have s1 := h1 G' H' x
  have s2 := h2 G' H' x
  have k1 := R.repL x r1
  have k2 := R.repL x r2
  show match some (zipD ds es)[i]? with
    | none => True
    | some none => _
    | some (some d) => _
  rw [zipD_get]
  cases e1 : ds[i]? with
  | none => exact ⟨xs, ys, s1, s2, .inl (by rw [← k1.length]; exact List.getElem?_eq_none_iff.mp e1)⟩
  | some d =>
    cases e2 : es[i]? with
    | none => exact ⟨xs, ys, s1, s2, .inr (by rw [← k2.length]; exact List.getElem?_eq_none_iff.mp e2)⟩
    | some e =>
      obtain ⟨v, ev, rv⟩ := k1.get e1
      obtain ⟨u, eu, ru⟩ := k2.get e2
      refine ⟨⟨xs, ys, v, u, s1, s2, ev, eu⟩, fun y H'' ⟨T, a, b, e3, nT, e4, e5, e6⟩ => ?_⟩
      have f1 := e5 xs s1
      have f2 := e6 ys s2
      rw [ev] at f1; cases f1
      rw [eu] at f2; cases f2
      subst e3 e4
      exact ⟨G', Ext.new nT, R'.new nT, .tp upd_same (.cons (R'.rep (Ext.new nT) rv) (.cons (R'.rep (Ext.new nT) ru) .nil))⟩
theorem ItzT.ok {K : PySem.W.Frag} {G : Gh} {H : Hp} {μ : Store} (R : Rel K G μ H) {p q : Addr} {ds es : List D} {xs ys : List V} (h1 : ∀ G' H', Ext G H G' H' → SqT K H' p xs) (h2 : ∀ G' H', Ext G H G' H' → SqT K H' q ys) (r1 : RepL K G.F H ds xs) (r2 : RepL K G.F H es ys) : ItOk K G H (.vals (zipD ds es)) (RZ.ItzT K p q) := by
  intro G' μ' H' i x R'
  have s1 := h1 G' H' x
  have s2 := h2 G' H' x
  have k1 := R.repL x r1
  have k2 := R.repL x r2
  show match some (zipD ds es)[i]? with
    | none => True
    | some none => _
    | some (some d) => _
  rw [zipD_get]
  cases e1 : ds[i]? with
  | none => exact ⟨xs, ys, s1, s2, .inl (by rw [← k1.length]; exact List.getElem?_eq_none_iff.mp e1)⟩
  | some d =>
    cases e2 : es[i]? with
    | none => exact ⟨xs, ys, s1, s2, .inr (by rw [← k2.length]; exact List.getElem?_eq_none_iff.mp e2)⟩
    | some e =>
      obtain ⟨v, ev, rv⟩ := k1.get e1
      obtain ⟨u, eu, ru⟩ := k2.get e2
      refine ⟨⟨xs, ys, v, u, s1, s2, ev, eu⟩, fun y H'' ⟨T, a, b, e3, nT, e4, e5, e6⟩ => ?_⟩
      have f1 := e5 xs s1
      have f2 := e6 ys s2
      rw [ev] at f1; cases f1
      rw [eu] at f2; cases f2
      subst e3 e4
      exact ⟨G', Ext.new nT, R'.new nT, .tp upd_same (.cons (R'.rep (Ext.new nT) rv) (.cons (R'.rep (Ext.new nT) ru) .nil))⟩
theorem di_zip {elts : List Expr} {kk : Nat} {tpos : Pos} (hg : Gl X "zip") (hm : X.mg "zip" = none) (ha : DA X P W [a, b] fg) (hs : starEach [a, b] X.env = (false, eval a X.env) :: starEach [b] X.env := by rfl) (hpl : (backTo pos (starEach [b] X.env)).any (·.1) = false := by rfl) :
    DI X P W (.Tuple elts kk tpos) (.Call (.Name "zip" p) [a, b] [] pos) (fZip fg) := (RZ.pi_zipA hg hm ha.pa hs hpl).to fun σ H Rr h => by
  obtain ⟨G, μ, ρ, he, h⟩ := h
  refine ⟨G, μ, ρ, he, Post.bind h fun ss μ1 vs G1 H1 x1 R1 r1 h1 => ?_⟩
  match ss, vs, r1, h1 with
  | [.v (.lst ds), .v (.lst es)], [_, _], .cons q1 (.cons q2 .nil), h1 =>
    obtain ⟨p1, xs, rfl, s1, k1⟩ := Rep.stL R1 q1 (.inl rfl)
    obtain ⟨p2, ys, rfl, s2, k2⟩ := Rep.stL R1 q2 (.inl rfl)
    exact ⟨p1, p2, xs, ys, rfl, .inl ⟨s1 _ _ .refl, s2 _ _ .refl, h1 _ G1 H1 .refl R1 (Itz.ok R1 s1 s2 k1 k2)⟩⟩
  | [.v (.fz ds), .v (.lst es)], [_, _], .cons q1 (.cons q2 .nil), h1 =>
    obtain ⟨p1, xs, rfl, s1, k1⟩ := Rep.stL R1 q1 (.inr rfl)
    obtain ⟨p2, ys, rfl, s2, k2⟩ := Rep.stL R1 q2 (.inl rfl)
    exact ⟨p1, p2, xs, ys, rfl, .inl ⟨s1 _ _ .refl, s2 _ _ .refl, h1 _ G1 H1 .refl R1 (Itz.ok R1 s1 s2 k1 k2)⟩⟩
  | [.v (.lst ds), .v (.fz es)], [_, _], .cons q1 (.cons q2 .nil), h1 =>
    obtain ⟨p1, xs, rfl, s1, k1⟩ := Rep.stL R1 q1 (.inl rfl)
    obtain ⟨p2, ys, rfl, s2, k2⟩ := Rep.stL R1 q2 (.inr rfl)
    exact ⟨p1, p2, xs, ys, rfl, .inl ⟨s1 _ _ .refl, s2 _ _ .refl, h1 _ G1 H1 .refl R1 (Itz.ok R1 s1 s2 k1 k2)⟩⟩
  | [.v (.tup ds), .v (.tup es)], [_, _], .cons q1 (.cons q2 .nil), h1 =>
    obtain ⟨p1, xs, rfl, s1, k1⟩ := Rep.stT R1 q1
    obtain ⟨p2, ys, rfl, s2, k2⟩ := Rep.stT R1 q2
    exact ⟨p1, p2, xs, ys, rfl, .inr ⟨s1 _ _ .refl, s2 _ _ .refl, h1 _ G1 H1 .refl R1 (ItzT.ok R1 s1 s2 k1 k2)⟩⟩

/-! ### reversed(x) -/
theorem rev_get {α : Type} {ds : List α} {i : Nat} (h : i < ds.length) : ds.reverse[i]? = ds[ds.length - 1 - i]? := by rw [List.getElem?_reverse h]
def fRev (f : FE) : FI := fun ρ μ => (f ρ μ).bind fun s μ1 => match s with
  | .v (.lst ds) => .ok (.vals ds.reverse) μ1
  | .v (.tup ds) => .ok (.vals ds.reverse) μ1
  | _ => .stuck
theorem di_rev (hg : Gl X "reversed") (hm : X.mg "reversed" = none) (ha : DE X P W e fa) (hs : starEach [e] X.env = (false, eval e X.env) :: starEach [] X.env := by rfl) : DI X P W tg (.Call (.Name "reversed" p) [e] [] pos) (fRev fa) := (RT.pi_revA hg hm ha hs).to fun σ H Rr h => by
  obtain ⟨G, μ, ρ, he, h⟩ := h
  refine ⟨G, μ, ρ, he, Post.bind h fun s μ1 x G1 H1 x1 R1 r1 h1 => ?_⟩
  match s, r1, h1 with
  | .v (.lst ds), r1, h1 =>
    obtain ⟨a, xs, rfl, s1, k1⟩ := Rep.stL R1 r1 (.inl rfl)
    refine ⟨a, xs, rfl, .inl ⟨s1 _ _ .refl, h1 _ G1 H1 .refl R1 fun G' μ' H' i x' R' => ?_⟩⟩
    have s2 := s1 G' H' x'
    have k2 := R1.repL x' k1
    show match some ds.reverse[i]? with
      | none => True
      | some none => _
      | some (some d) => _
    by_cases hi : i < ds.length
    · rw [rev_get hi, List.getElem?_eq_getElem (by omega)]
      obtain ⟨v, ev, rv⟩ := k2.get (List.getElem?_eq_getElem (show ds.length - 1 - i < ds.length by omega))
      rw [k2.length] at ev
      exact ⟨⟨by rw [← k2.length]; exact hi, xs, v, s2, ev⟩, fun y H'' ⟨e1, e2⟩ => by
        have e3 := e2 xs s2
        rw [ev] at e3
        cases e3
        subst e1
        exact ⟨G', .refl, R', rv⟩⟩
    · rw [List.getElem?_eq_none (by rw [List.length_reverse]; omega)]
      show xs.length ≤ i
      rw [← k2.length]; omega
  | .v (.tup ds), r1, h1 =>
    obtain ⟨a, xs, rfl, s1, k1⟩ := Rep.stT R1 r1
    refine ⟨a, xs, rfl, .inr ⟨s1 _ _ .refl, h1 _ G1 H1 .refl R1 fun G' μ' H' i x' R' => ?_⟩⟩
    have s2 := s1 G' H' x'
    have k2 := R1.repL x' k1
    show match some ds.reverse[i]? with
      | none => True
      | some none => _
      | some (some d) => _
    by_cases hi : i < ds.length
    · rw [rev_get hi, List.getElem?_eq_getElem (by omega)]
      obtain ⟨v, ev, rv⟩ := k2.get (List.getElem?_eq_getElem (show ds.length - 1 - i < ds.length by omega))
      rw [k2.length] at ev
      exact ⟨⟨by rw [← k2.length]; exact hi, xs, v, s2, ev⟩, fun y H'' ⟨e1, e2⟩ => by
        have e3 := e2 xs s2
        rw [ev] at e3
        cases e3
        subst e1
        exact ⟨G', .refl, R', rv⟩⟩
    · rw [List.getElem?_eq_none (by rw [List.length_reverse]; omega)]
      show xs.length ≤ i
      rw [← k2.length]; omega

/-! ### truth -/
def truB : D → Option Bool
  | .non => some false
  | .bl b => some b
  | .int i => some (i != 0)
  | .str z => if z.length ≤ lim then some ((z.length : Int) != 0) else none
  | .lst ds => some (!ds.isEmpty)
  | .fz ds => some (!ds.isEmpty)
  | .tup ds => some (!ds.isEmpty)
  | _ => none
def fTru (f : FE) : FT := fun ρ μ => (f ρ μ).bind fun s μ1 => match s.get μ1 with
  | some d => match truB d with
    | some k => .ok k μ1
    | none => .stuck
  | none => .stuck
theorem isE {K : PySem.W.Frag} {F : Addr → Prop} {H : Hp} {ds : List D} {vs : List V} (r : RepL K F H ds vs) : (!ds.isEmpty) = !vs.isEmpty := by cases r <;> rfl
theorem Now.tru {K : PySem.W.Frag} {F : Addr → Prop} {H : Hp} {d : D} {v : V} {k : Bool} (h : Now K F H d v) (e : truB d = some k) : TruV K v H k := by
  cases d with
  | non => rw [h.non]; cases e; rfl
  | bl b => rw [h.bl]; cases e; rfl
  | int i => rw [h.int]; cases e; rfl
  | str z =>
    rw [h.str]
    have e' : (if z.length ≤ lim then some ((z.length : Int) != 0) else none) = some k := e
    by_cases hl : z.length ≤ lim
    · rw [if_pos hl] at e'; cases e'; exact ⟨by rw [sizeLine_lim]; exact hl, rfl⟩
    · rw [if_neg hl] at e'; cases e'
  | lst ds => cases e; obtain ⟨a, xs, rfl, h1, r⟩ := h.lst; exact .inl ⟨xs, .of h1, isE r⟩
  | fz ds => cases e; obtain ⟨a, xs, rfl, h1, r⟩ := h.fz; exact .inl ⟨xs, h1, isE r⟩
  | tup ds => cases e; obtain ⟨a, xs, rfl, h1, r⟩ := h.tup; exact .inr (.inl ⟨xs, h1.sq, isE r⟩)
  | _ => cases e
theorem dt_tru (h : DE X P W e fa) (he : ∀ whole, isTrue e X.env whole = (do let v ← whole; standAt e.pos; holding [v] (truthy v)) := by intro _; rfl) : DT X P W e (fTru fa) := (pt_truth h he).to fun σ H Q q => by
  obtain ⟨G, μ, ρ, he, h⟩ := q
  refine ⟨G, μ, ρ, he, Post.bind h fun s μ1 x G1 H1 x1 R1 r1 h1 => ?_⟩
  cases e1 : s.get μ1 with
  | none => rw [e1] at h1; exact h1.elim
  | some d =>
    rw [e1] at h1
    simp only at h1
    cases e2 : truB d with
    | none => rw [e2] at h1; exact h1.elim
    | some k =>
      rw [e2] at h1
      exact ⟨k, (R1.now r1 e1).tru e2, h1 k G1 H1 .refl R1 rfl⟩

/-! ### a, b = .. of a tuple or a list -/
theorem _root_.L2.PG.or {X : Cx} {e : Expr} {t t' : TG} (h : PG X e t) (h' : PG X e t') : PG X e (fun v σ H Q => t v σ H Q ∨ t' v σ H Q) := ⟨fun pins s σ H v u Q I r q => q.elim (h.run pins s σ H v u Q I r) (h'.run pins s σ H v u Q I r)⟩
def gUnpA (n : Nat) (f : FGs) : FG := fun s ρ μ => match s.get μ with
  | some (.tup ds) => if ds.length = n then f ds ρ μ else none
  | some (.tp ds) => if ds.length = n then f ds ρ μ else none
  | some (.lst ds) => if ds.length = n then f ds ρ μ else none
  | _ => none
theorem dg_any {k n : Nat} {hg : FGs} (hc : X.calm = true) (h : DGs X P es hg) (hn : (assignEach es X.env).length = n := by rfl) (hst : (assignEach es X.env).findIdx? (·.1) = none := by rfl) : DG X P (.Tuple es k pos) (gUnpA n hg) :=
  ((dg_tup hc h hn hst).or (dg_unl hc h hn hst)).to fun v σ H Q q => by
    obtain ⟨G, μ, ρ, s, he, r, q⟩ := q
    unfold gUnpA at q
    cases e : s.get μ with
    | none => rw [e] at q; exact q.elim
    | some d =>
      cases d with
      | tup ds => rw [e] at q; exact .inl ⟨G, μ, ρ, s, he, r, by unfold gUnp; rw [e]; exact q⟩
      | tp ds => rw [e] at q; exact .inl ⟨G, μ, ρ, s, he, r, by unfold gUnp; rw [e]; exact q⟩
      | lst ds => rw [e] at q; exact .inr ⟨G, μ, ρ, s, he, r, by unfold gUnpL; rw [e]; exact q⟩
      | _ => rw [e] at q; exact q.elim

/-! ### in place -/
def imulF : D → D → Store → Out Sl
  | .int i, .int j, μ => if mulOk i j = true then okV (.int (i * j)) μ else .stuck
  | _, _, _ => .stuck
theorem opd_imul {K : PySem.W.Frag} : OpD K (rI CMul fun i j => .int (i * j)) (g2 imulF) := by
  refine opd fun G μ H σ W a b x y Q R ra rb p => ?_
  unfold imulF at p
  split at p
  · rename_i i j
    by_cases hl : mulOk i j = true
    · rw [if_pos hl] at p
      rw [ra.int, rb.int]
      refine ⟨_, _, rfl, rfl, ?_, Post.val R p (.int _)⟩
      unfold mulOk at hl
      simp only [Bool.or_eq_true, Bool.and_eq_true, decide_eq_true_eq] at hl
      exact hl
    · rw [if_neg hl] at p; exact p.elim
  · exact p.elim
/-- j > 0: the quotient downward -/
def ifdivF : D → D → Store → Out Sl
  | .int i, .int j, μ => if 0 < j ∧ j < 1073741824 then okV (.int (i / j)) μ else .stuck
  | _, _, _ => .stuck
theorem opd_ifdiv {K : PySem.W.Frag} : OpD K (rI CDiv fun i j => .int (i / j)) (g2 ifdivF) := by
  refine opd fun G μ H σ W a b x y Q R ra rb p => ?_
  unfold ifdivF at p
  split at p
  · rename_i i j
    by_cases hl : 0 < j ∧ j < 1073741824
    · rw [if_pos hl] at p
      rw [ra.int, rb.int]
      exact ⟨_, _, rfl, rfl, hl, Post.val R p (.int _)⟩
    · rw [if_neg hl] at p; exact p.elim
  · exact p.elim
end
end DL

namespace DL
open PySem PySem.Spec PyProof.Rows L2
/-! ### try: .. except A as n: .. except B as m: .. -/
abbrev Cl := Value × Nat × (Addr → Value → Option Addr → TS)
def unE (D : Ends) (i : Nat) : Ends := { nx := fun τ K => D.nx (τ.set i none) K, rt := D.rt, bk := fun τ K => D.bk (τ.set i none) K, ct := fun τ K => D.ct (τ.set i none) K }
def wAll (K : PySem.W.Frag) (Wo : WX) (D : Ends) : List Cl → WX
  | [] => Wo
  | (c, i, ts) :: r => fun cls d τ H => ∃ b, PySem.W.exmOne K cls c = some b ∧ (b = true → ∀ a, H a = none → ts a cls d (unE D i) (τ.set i (some (.ref a))) H) ∧ (b = false → wAll K Wo D r cls d τ H)
inductive ClOk (X : Cx) : List ExceptHandler → List Cl → Prop
  | nil : ClOk X [] []
  | cons {x n : Str} {c : Value} {i : Nat} {ts : Addr → Value → Option Addr → TS} {b₀ : Stmt} {su : List Stmt} {np pe : Pos} {hd : List ExceptHandler} {l : List Cl} (hi : X.N[i]? = some n) (hk : X.env.kindOf n = some .local) (hc : Names X x c)
      (hs : ∀ (a : Addr) (oe : Obj) (cls : Value) (d : Option Addr) (pn : List (Addr × Obj)), Zc cls d oe → (∃ vs, oe.data = .fields vs) → PSs (X.suite a ((a, oe) :: pn)) (b₀ :: su) (ts a cls d)) (r : ClOk X hd l) : ClOk X (.ExceptHandler (some (.Name x np)) (some n) (b₀ :: su) pe :: hd) ((c, i, ts) :: l)
section
variable {X : Cx} {body : List Stmt} {h₀ : ExceptHandler} {hds : List ExceptHandler} {l : List Cl} {pos : Pos} {tb : WX → TS} {Wo : WX}
theorem ps_tryM (hs : X.stack = X.env :: X.outer) (hf : X.env.frame = some X.env.locals) (hN : X.N.Nodup) (tk : Takes X Wo)
    (hb : ∀ (W : WX) (pn : List (Addr × Obj)) (xe : Value → Shared → Prop), Takes (X.tr pn xe) W → PassesOwn (model X.prog X.w) X.A X.env xe → PSs (X.tr pn xe) body (tb W)) (hh : ClOk X (h₀ :: hds) l) :
    PS X (.Try body (h₀ :: hds) [] [] pos) (fun D τ H => tb (wAll X.K Wo D l) D τ H) := by
  constructor
  intro pins s τ H D I h
  have okX := I.ok
  have fr0 : X.A.frames = some (X.env :: X.outer) := okX.frames.trans (by rw [hs])
  refine wpAny_Try_except (wpAny_mono ((hb (wAll X.K Wo D l) (X.pn ++ pins) (fun e k1 => wpAny (model X.prog X.w) X.A (noteFrame e X.env) (fun _ k2 => wpAny (model X.prog X.w) X.A (setFlight e none) (fun _ k3 => wpAny (model X.prog X.w) X.A (handleBy e X.env (h₀ :: hds)) (SP X pins D) X.xe k3) X.xe k2) X.xe k1)
    (fun u t xx => ?_) PassesOwn.looking).run [] s τ H D (I.toTry _) h) (fun f t q => ?_) (fun _ _ z => z))
  · obtain ⟨a, B, tI, pin1, τ1, H1, cls, d, rfl, J0, nb, up, sky, na, os1, ag, w⟩ := xx
    have J := J0.ofTry okX
    have sk2 : Sky B (X.env :: X.outer) a (Zc cls d) X.env.locals t.heap := hs ▸ sky
    show wpAny (model X.prog X.w) X.A (noteFrame (.ref a) X.env) _ _ _
    refine Sky.land Zc.steady fr0 hf sk2 fun g fl ug => ?_
    have Jg : Inv X pins τ1 H1 { t with heap := g } := J.landed nb fl.1 (up.trans ug) os1 ag
    obtain ⟨o1, v1, g1, z1, d1⟩ := fl.there
    have far : a ∉ frs (X.env :: X.outer) := fun hm => by
      obtain ⟨_, o', e', hnf⟩ := fl.2.2.1.mem hm
      rw [g1] at e'; cases e'; exact hnf _ d1
    have nL : a ≠ X.env.locals := fun z => far (List.mem_filterMap.mpr ⟨X.env, List.mem_cons_self, z ▸ hf⟩)
    have nF : a ∉ X.fs := fun hm => by
      obtain ⟨e, he, q⟩ := List.mem_filterMap.mp hm; exact far (List.mem_filterMap.mpr ⟨e, List.mem_cons_of_mem _ he, q⟩)
    have Sg := Jg.suite g1 d1 na nL nF
    have go : ∀ {hd : List ExceptHandler} {m : List Cl}, ClOk X hd m → wAll X.K Wo D m cls d τ1 H1 → wpAny (model X.prog X.w) X.A (handleBy (.ref a) X.env hd) (SP X pins D) X.xe { t with heap := g } := by
      intro hd m hk
      induction hk with
      | nil =>
        intro w
        obtain ⟨_, _, _, oe, vs, T, oT, tl, e1, _, e3, e4, _⟩ := id fl
        refine wpAny_handleBy_nil ?_; unfold PySem.passOn
        refine wpAny_bind (wpAny_field e1 e3 e4 ?_); rw [if_neg (show ¬ ((Value.ref T == Value.none) = true) from by simp)]
        have out : wpAny (model X.prog X.w) X.A (setFlight (.ref a) X.env.frame) (fun _ k => wpAny (model X.prog X.w) X.A (throw (.ref a) : Sem Flow) (SP X pins D) X.xe k) X.xe { t with heap := g } := by
          rw [hf]; refine HandSPX.setFlight_upZ fl fun g4 hh4 ug4 => wpAny_throw (tk _ _ ⟨a, B, tI, pins, τ1, H1, cls, d, rfl, J, nb, (up.trans ug).trans ug4, .inr (.inr (hs.symm ▸ hh4)), na, os1, ag, w⟩)
        first | exact wpAny_bind (wpAny_pure (wpAny_bind out)) | exact wpAny_bind out
      | @cons x n c i ts b₀ su np pe hd2 m2 hi hkl hc hsu r ih =>
        intro w
        obtain ⟨b, eb, yes, no⟩ := w
        refine wpAny_handleBy_cons (codeAny_handlers_test ?_) (by intro q; cases q)
        have LT : PySem.W.Looks (model X.prog X.w) g (typeOf (.ref a)) cls := fun A Q E s k q => wpAny_typeOf_ref (k _ _ g1) (z1.1.symm ▸ q)
        have LM := PySem.W.exm_one (M := model X.prog X.w) Jg.kIn LT eb
        have ask : ∀ {Q : Value → Shared → Prop} {E : Value → Shared → Prop}, Q c { t with heap := g } → wpAny (model X.prog X.w) (X.A.mark (some (.ref a))) (eval (.Name x np) X.env) Q E { t with heap := g } := fun {Q E} q => by
          obtain ⟨hg, hdb, hm | ⟨hm, hv, hnn⟩⟩ := hc
          · exact ld_glob (X := X.suite a ((a, o1) :: (X.pn ++ pins))) Sg hg hm q hdb
          · exact ld_blt (X := X.suite a ((a, o1) :: (X.pn ++ pins))) Sg hg hm hv q hnn hdb
        refine ask (LM.here ?_)
        cases b with
        | true =>
          refine codeAny_handlers_suite_as (HandSPX.lands_againZ fl fun g4 f4 ug4 => ?_)
          have J4 : Inv X pins τ1 H1 { t with heap := g4 } := J.landed nb f4.1 ((up.trans ug).trans ug4) os1 ag
          obtain ⟨o4, v4, e4, z4, d4⟩ := f4.there
          refine store_ok (X := X.suite a ((a, o4) :: (X.pn ++ pins))) (v := .ref a) (J4.suite e4 d4 na nL nF) hN hi (.inl hkl) rfl (fun s5 S5 => ?_) (.inr hkl)
          refine wpAny_mono ((hsu a o4 cls d (X.pn ++ pins) z4 ⟨_, d4⟩).run [] s5 _ H1 _ S5 (yes rfl a na)) (fun f s6 q6 => ?_) (fun _ _ z => False.elim z)
          have bye : ∀ {τ6 : L2.St} {H6 : Hp} {Q : Shared → Prop}, Inv (X.suite a ((a, o4) :: (X.pn ++ pins))) [] τ6 H6 s6 → (∀ s7, Inv X pins (τ6.set i none) H6 s7 → Q s7) → wpAny (model X.prog X.w) X.A (do bindName X.env n .none; unbindBehindTheSuite X.env n pe) (fun _ s7 => Q s7) X.xe s6 :=
            fun {τ6 H6 Q} S6 hq => gone_ok (S6.unsuite okX) hN hi hkl hq
          cases f with
          | ret u => obtain ⟨v6, τ6, H6, S6, r6, q6⟩ := q6; exact bye S6 fun s7 J7 => ⟨_, _, _, J7, r6, q6⟩
          | _ => obtain ⟨τ6, H6, S6, q6⟩ := q6; exact bye S6 fun s7 J7 => ⟨_, _, J7, q6⟩
        | false => exact ih (no rfl)
    exact go hh w
  · cases f with
    | next => obtain ⟨τ1, H1, J1, q⟩ := q; exact wpAny_execs_nil ⟨τ1, H1, J1.ofTry okX, q⟩
    | brk => obtain ⟨τ1, H1, J1, q⟩ := q; exact ⟨τ1, H1, J1.ofTry okX, q⟩
    | cont => obtain ⟨τ1, H1, J1, q⟩ := q; exact ⟨τ1, H1, J1.ofTry okX, q⟩
    | ret u => obtain ⟨v, τ1, H1, J1, r, q⟩ := q; exact ⟨v, τ1, H1, J1.ofTry okX, r, q⟩
end
abbrev ClF := List (Str × Bool) × Nat × FS
def tryCl : List ClF → Exc → Env → Store → SOut
  | [], e, ρ, μ => .exc e ρ μ
  | (cs, i, g) :: r, e, ρ, μ => match cs.lookup e.cls with
    | some true => (g ((clrX ρ).set i (some (.x e))) μ).unx i
    | some false => tryCl r e ρ μ
    | none => .stuck
def sTryM (cl : List ClF) (f : FS) : FS := fun ρ μ => match f ρ μ with
  | .exc e ρ1 μ1 => tryCl cl e ρ1 μ1
  | o => o
inductive ClD (X : Cx) : List ExceptHandler → List ClF → Prop
  | nil : ClD X [] []
  | cons {x n : Str} {i : Nat} {cs : List (Str × Bool)} {g : FS} {b₀ : Stmt} {su : List Stmt} {np pe : Pos} {hd : List ExceptHandler} {l : List ClF} (hi : X.N[i]? = some n) (hk : X.env.kindOf n = some .local) (hc : Names X x (.ref (He.ga X.K x)))
      (hcs : ∀ p ∈ cs, PySem.W.exmOne X.K (.ref (He.ga X.K p.1)) (.ref (He.ga X.K x)) = some p.2) (hsu : SuiteD cs X (b₀ :: su) g) (r : ClD X hd l) : ClD X (.ExceptHandler (some (.Name x np)) (some n) (b₀ :: su) pe :: hd) ((cs, i, g) :: l)
section
variable {X : Cx} {P : PX} {W : WX} {body : List Stmt} {h₀ : ExceptHandler} {hds : List ExceptHandler} {l : List ClF} {pos : Pos} {f : FS}
/-- the clauses, as HandS has them -/
theorem ClD.cl : ∀ {hd : List ExceptHandler} {l : List ClF}, ClD X hd l → ∃ m : List Cl, ClOk X hd m ∧ ∀ (D : Ends) (G G' : Gh) (H H' : Hp) (e : Exc) (ρ : Env) (μ : Store) (d : Option Addr) (σ : L2.St), Ext G H G' H' → Rel X.K G' μ H' → EnvOk X.K G' H' ρ σ → ExcAt X.K G' H' e d →
    Post1 X.K W G H (tryCl l e ρ μ) D → wAll X.K W D m (.ref (He.ga X.K e.cls)) d σ H'
  | _, _, .nil => ⟨[], .nil, fun D G G' H H' e ρ μ d σ x R env ea h => h d σ G' H' x R env ea⟩
  | _, _, @ClD.cons _ x n i cs g b₀ su np pe hd l hi hk hc hcs hsu r => by
    obtain ⟨m, ok, key⟩ := ClD.cl r
    refine ⟨(.ref (He.ga X.K x), i, fun a cls d => fun D σ H => ∃ xn, cls = .ref (He.ga X.K xn) ∧ cs.lookup xn = some true ∧ TDS X.K (fun ex => ex = some (a, xn, d)) W0 g D σ H) :: m,
      .cons hi hk hc (fun a oe cls d pn hz hd => PSs.ex fun xn => PSs.pre fun e => PSs.pre fun hl => by subst e; exact hsu a oe xn d pn hl hz hd) ok, ?_⟩
    intro D G G' H H' e ρ μ d σ x1 R1 e1 ea h
    unfold tryCl at h
    cases q2 : cs.lookup e.cls with
    | none => rw [q2] at h; exact h.elim
    | some k =>
      have hm := hcs (e.cls, k) (PySem.mem_of_lookup q2)
      cases k with
      | false =>
        rw [q2] at h
        exact ⟨false, hm, fun z => by (cases z), fun _ => key D G G' H H' e ρ μ d σ x1 R1 e1 ea h⟩
      | true =>
        simp only [q2] at h
        refine ⟨true, hm, fun _ a na => ?_, fun z => by (cases z)⟩
        refine ⟨e.cls, rfl, q2, { G' with ex := some (a, e.cls, d) }, μ, _, ⟨rfl, R1.ex, (EnvOk.clr e1).set (s := .x e) ⟨a, d, rfl, rfl, ea⟩ i⟩, ?_⟩
        cases q3 : g ((clrX ρ).set i (some (.x e))) μ with
        | stuck => rw [q3] at h; exact h.elim
        | exc _ _ _ => rw [q3] at h; exact h.elim
        | go c ρ3 μ3 =>
          rw [q3] at h
          intro σ3 G3 H3 x3 R3 e3
          have x4 := x1.exl x3
          cases c with
          | nx => exact h _ _ H3 x4 R3.ex ((e3.unset i).clr)
          | bk => exact h _ _ H3 x4 R3.ex ((e3.unset i).clr)
          | ct => exact h _ _ H3 x4 R3.ex ((e3.unset i).clr)
          | rt s =>
            cases s with
            | x _ => exact h.elim
            | v d => exact fun v r => h _ _ H3 x4 R3.ex ((e3.unset i).clr) v r
            | c m => exact fun v r => h _ _ H3 x4 R3.ex ((e3.unset i).clr) v r
theorem ds_tryM (hs : X.stack = X.env :: X.outer) (hf : X.env.frame = some X.env.locals) (hN : X.N.Nodup) (tk : Takes X W)
    (hb : ∀ (W : WX) (pn : List (Addr × Obj)) (xe : Value → Shared → Prop), Takes (X.tr pn xe) W → PassesOwn (model X.prog X.w) X.A X.env xe → DSs (X.tr pn xe) P W body f) (hh : ClD X (h₀ :: hds) l) : DS X P W (.Try body (h₀ :: hds) [] [] pos) (sTryM l f) := by
  obtain ⟨m, ok, key⟩ := hh.cl (W := W)
  refine (ps_tryM (tb := fun W => TDS X.K P W f) hs hf hN tk hb ok).to fun D σ H h => ?_
  obtain ⟨G, μ, ρ, he, h⟩ := h
  refine ⟨G, μ, ρ, he, ?_⟩
  unfold sTryM at h
  cases q : f ρ μ with
  | stuck => rw [q] at h; exact h
  | go c ρ1 μ1 => rw [q] at h; exact h
  | exc e ρ1 μ1 =>
    simp only [q] at h
    exact fun d σ' G' H' x R env ea => key D G G' H H' e ρ1 μ1 d σ' x R env ea h
end
end DL

namespace DL
open PySem PySem.Spec PyProof.Rows L2
/-! ### count of a list or a tuple -/
def tyT (K : PySem.W.Frag) (x : V) (H : Hp) : Prop := tyV K "tuple" x H ∨ ∃ p o xs, x = .ref p ∧ H p = some (.frz o (.tup xs)) ∧ Sol o
theorem tyT_is {X : Cx} {pins : List (Addr × Obj)} {σ : L2.St} {H : Hp} {s : Shared} {x : V} {v : Value} (I : Inv X pins σ H s) (r : RelV x v) (ty : tyT X.K x H) :
    s.TypeIs v "tuple" ∧ ∀ a, v = .ref a → ∃ ob, s.heap.get? a = some ob ∧ ob.dict = none := by
  rcases ty with ty | ⟨p, o, xs, rfl, h, so⟩
  · exact tyV_is I r ty
  · cases (show v = Value.ref p from r)
    obtain ⟨e0, _, its, rv, o', h1, h2, n, h3⟩ := (show ObjOk X.prog X.w H s.heap p (.frz o (.tup xs)) from I.hok p _ h)
    refine ⟨⟨_, h1, h2⟩, fun a e => ?_⟩
    cases e
    exact ⟨o, e0, so.2⟩
section
variable {X : Cx} {o e : Expr} {es : List Expr} {to : TE} {t : TA} {name : Str} {apos cpos : Pos} {id1 id2 : String} {ra rb : V → List V → Hp → VK → Prop}
def tBA (K : PySem.W.Frag) (ra rb : V → List V → Hp → VK → Prop) (to : TE) (t : TA) : TE := fun σ H Q => to σ H fun x H1 => (tyV K "list" x H1 ∧ t σ H1 fun xs H2 => ra x xs H2 Q) ∨ (tyT K x H1 ∧ t σ H1 fun xs H2 => rb x xs H2 Q)
theorem pe_ba (s1 : Slot "list" name id1) (t1 : typeOf (.builtin id1) = pure (.type "method_descriptor")) (m1 : MtR X id1 ra) (s2 : Slot "tuple" name id2) (t2 : typeOf (.builtin id2) = pure (.type "method_descriptor")) (m2 : MtR X id2 rb) (ho : PE X o to) (ha : PA X (e :: es) t)
    (hbase : attributeBase o name X.env (eval o X.env) = eval o X.env := by rfl)
    (hfew : ((backTo cpos (starEach (e :: es) X.env)).all (fun x => !x.1) && (backToKw cpos (keywordEach [] X.env)).all (fun x => x.1.isSome)
      && decide ((e :: es).length + ([] : List Keyword).length + (if ([] : List Keyword).isEmpty then 0 else 1) < 30)) = true := by rfl)
    (hline : (apos.endLine == cpos.line) = true := by rfl) (hs : starEach (e :: es) X.env = (false, eval e X.env) :: starEach es X.env := by rfl) (hplain : (backTo cpos (starEach es X.env)).any (·.1) = false := by rfl) :
    PE X (.Call (.Attribute o name apos) (e :: es) [] cpos) (tBA X.K ra rb to t) := by
  refine ⟨fun pins s σ H Q I h => ?_⟩
  refine wpAny_Call_method_late hbase hfew hline rfl (thn (ho.run pins s σ H _ I h) fun v s1' ⟨x, H1, I1, r1, q1⟩ => ?_)
  rcases q1 with ⟨ty, q1⟩ | ⟨ty, q1⟩
  · have hA := ha.run cpos pins s1' σ H1 _ I1 q1
    rw [hs] at hA ⊢
    obtain ⟨h1, h2⟩ := tyV_is I1 r1 ty
    refine ⟨"list", id1, PySem.F.plainAttrs_list, s1, t1, h1, h2, ?_⟩
    refine Calls.callWith_builtin (by show (false || (backTo cpos (starEach es X.env)).any (·.1)) = false; rw [hplain] <;> rfl) (Calls.evalArgs_plain ?_)
    exact thn hA fun us s2 ⟨vs, H2, I2, r2, q2⟩ => m1 pins s2 σ H2 x vs v us Q I2 r1 r2 q2
  · have hA := ha.run cpos pins s1' σ H1 _ I1 q1
    rw [hs] at hA ⊢
    obtain ⟨h1, h2⟩ := tyT_is I1 r1 ty
    refine ⟨"tuple", id2, PySem.F.plainAttrs_tuple, s2, t2, h1, h2, ?_⟩
    refine Calls.callWith_builtin (by show (false || (backTo cpos (starEach es X.env)).any (·.1)) = false; rw [hplain] <;> rfl) (Calls.evalArgs_plain ?_)
    exact thn hA fun us s2 ⟨vs, H2, I2, r2, q2⟩ => m2 pins s2 σ H2 x vs v us Q I2 r1 r2 q2
end
def isTup (s : Sl) (μ : Store) : Bool := match s.get μ with
  | some (.tup _) => true
  | _ => false
theorem Rel.tyTup {K : PySem.W.Frag} {G : Gh} {H : Hp} {μ : Store} (R : Rel K G μ H) {s : Sl} {v : V} (h : SlRep K G H s v) (e : isTup s μ = true) : tyT K v H := by
  unfold isTup at e
  cases q : s.get μ with
  | none => rw [q] at e; cases e
  | some d =>
    rw [q] at e
    cases d with
    | tup ds =>
      obtain ⟨a, xs, rfl, h1, _⟩ := (R.now h q).tup
      rcases h1 with ⟨o, h1, so⟩ | ⟨o, its, n, k1, k2, k3, k4⟩
      · exact .inr ⟨a, o, xs, rfl, h1, so⟩
      · exact .inl (.inr (.inl ⟨rfl, o, k1, k2, k3⟩))
    | _ => cases e
def fMeth2 (fo : FE) (fa : FA) (g1 g2 : Sl → List Sl → Store → Out Sl) : FE := fun ρ μ => (fo ρ μ).bind fun s μ1 => if isTup s μ1 = true then (fa ρ μ1).bind fun ss μ2 => g2 s ss μ2 else if isLst s μ1 = true then (fa ρ μ1).bind fun ss μ2 => g1 s ss μ2 else .stuck
section
variable {X : Cx} {P : PX} {W : WX} {o e : Expr} {es : List Expr} {fo : FE} {fg : FA} {name : Str} {apos cpos : Pos} {id1 id2 : String} {ra rb : V → List V → Hp → VK → Prop} {ga gb : Sl → List Sl → Store → Out Sl}
theorem de_ma (s1 : Slot "list" name id1) (t1 : typeOf (.builtin id1) = pure (.type "method_descriptor")) (m1 : MtR X id1 ra) (d1 : MtD X.K ra ga) (s2 : Slot "tuple" name id2) (t2 : typeOf (.builtin id2) = pure (.type "method_descriptor")) (m2 : MtR X id2 rb) (d2 : MtD X.K rb gb) (ho : DE X P W o fo) (ha : DA X P W (e :: es) fg)
    (hbase : attributeBase o name X.env (eval o X.env) = eval o X.env := by rfl)
    (hfew : ((backTo cpos (starEach (e :: es) X.env)).all (fun x => !x.1) && (backToKw cpos (keywordEach [] X.env)).all (fun x => x.1.isSome)
      && decide ((e :: es).length + ([] : List Keyword).length + (if ([] : List Keyword).isEmpty then 0 else 1) < 30)) = true := by rfl)
    (hline : (apos.endLine == cpos.line) = true := by rfl) (hs : starEach (e :: es) X.env = (false, eval e X.env) :: starEach es X.env := by rfl) (hplain : (backTo cpos (starEach es X.env)).any (·.1) = false := by rfl) :
    DE X P W (.Call (.Attribute o name apos) (e :: es) [] cpos) (fMeth2 fo fg ga gb) := (pe_ba s1 t1 m1 s2 t2 m2 ho ha.pa hbase hfew hline hs hplain).to fun σ H Q h => by
  obtain ⟨G, μ, ρ, he, h⟩ := h
  refine ⟨G, μ, ρ, he, Post.bind h fun s μ1 x G1 H1 x1 R1 r1 h1 => ?_⟩
  by_cases ht : isTup s μ1 = true
  · rw [if_pos ht] at h1
    refine .inr ⟨R1.tyTup r1 ht, G1, μ1, ρ, he.step x1 R1, Post.bind h1 fun ss μ2 vs G2 H2 x2 R2 r2 h2 => ?_⟩
    exact d2 G2 μ2 H2 σ W s ss x vs Q R2 (R1.sl x2 r1) r2 h2
  · rw [if_neg ht] at h1
    by_cases hl : isLst s μ1 = true
    · rw [if_pos hl] at h1
      refine .inl ⟨R1.tyLst r1 hl, G1, μ1, ρ, he.step x1 R1, Post.bind h1 fun ss μ2 vs G2 H2 x2 R2 r2 h2 => ?_⟩
      exact d1 G2 μ2 H2 σ W s ss x vs Q R2 (R1.sl x2 r1) r2 h2
    · rw [if_neg hl] at h1; exact h1.elim
end
section
variable {X : Cx} {K : PySem.W.Frag}
def rCntT (K : PySem.W.Frag) : V → List V → Hp → VK → Prop := fun x xs H Q => ∃ (p : Addr) (ns : List Int) (k : Int), x = .ref p ∧ xs = [.int k] ∧ SqT K H p (ns.map V.int) ∧ Q (.int (ns.count k : Nat)) H
theorem mt_tcount : MtR X "tuple.count" (rCntT X.K) := by
  intro pins s σ H x xs v us Q I rx rxs h
  obtain ⟨p, ns, k, rfl, rfl, hs, q⟩ := h
  cases rx
  obtain ⟨u, rfl, ru⟩ := rxs.one
  obtain ⟨t, rfl⟩ := ru
  obtain ⟨its, rv, pl, hz⟩ := I.tuple hs
  obtain ⟨⟨cls, dd, data, sl⟩, ho, hc, n, hd⟩ := pl
  simp only at hc hd
  subst hc hd
  have hi := ints_of_vals rv
  refine call_meets PySem.F.slot_tuple_count ⟨_, ho, rfl⟩ PySem.F.entry_tuple_count (PySem.F.args_tuple_count_2 _ _)
    (PySem.SeqAt.tuple_countAt p its.toArray n dd sl (.int k t) (eqk k)) ⟨ho, fun y hy => (eqk_gives hi y (by simpa using hy)).at _ _, ?_⟩
  have ec : its.toArray.toList.countP (eqk k) = ns.count k := eqk_count hi
  refine ⟨.int (ns.count k : Nat), H, I.tok _, ⟨s.toks, ?_⟩, q⟩
  show Value.int ((its.toArray.toList.countP (eqk k) : Nat) : Int) s.toks = Value.int ((ns.count k : Nat) : Int) s.toks
  rw [ec]
def countTG (s : Sl) (ss : List Sl) (μ : Store) : Out Sl := match s.get μ, ss with
  | some (.tup ds), [.v (.int i)] => match intsOf ds with
    | some ns => okV (.int (ns.count i : Nat)) μ
    | none => .stuck
  | _, _ => .stuck
theorem mtd_tcount : MtD K (rCntT K) countTG := by
  intro G μ H σ W s ss x vs Q R rs rss p
  unfold countTG at p
  cases e : s.get μ with
  | none => simp only [e] at p; exact p.elim
  | some d =>
    have rn := R.now rs e
    simp only [e] at p
    split at p
    · rename_i ds i heq
      cases heq
      cases e2 : intsOf ds with
      | none => rw [e2] at p; exact p.elim
      | some ns =>
        rw [e2] at p
        match vs, rss with
        | [y], .cons ry .nil =>
          cases ry
          obtain ⟨a, xs, rfl, h1, r1⟩ := rn.tup
          rw [intsOf_eq e2] at r1
          have h2 := h1.sq
          rw [r1.ints] at h2
          exact ⟨a, ns, i, rfl, rfl, h2, Post.val R p (.int _)⟩
    · exact p.elim
end
end DL

namespace DL
open PySem PySem.Spec PyProof.Rows L2
/-! ### sum, max, min of lists and tuples of ints -/
section
variable {prog : Program} {w : World} {A : Around} {E : Value → Shared → Prop} {s : Shared} {l : Addr} {its : List Value} {ns : List Int} {Q : Value → Shared → Prop}
theorem sumT_raw (hh : A.handled = none) (hl : s.heap.IsTuple l its.toArray) (hi : IntsAre its ns)
    (h : ∀ h' tk t', (∀ b o, s.heap.get? b = some o → h'.get? b = some o) → Q (.int ns.sum t') { s with heap := h', toks := tk }) : wpAny (model prog w) A (call (.builtin "sum") [.ref l]) Q E s := by
  obtain ⟨xs, e⟩ := hi.allInts.items
  have hn : numsOf (intItems xs).toList = ns := by rw [← e]; exact hi.numsOf
  rw [nums_intItems] at hn
  rw [e] at hl
  refine PySem.W.ktm_sumG hh hl fun h' tk t' hk => ?_
  have := h h' tk t' hk
  rw [preSum_eq, List.take_of_length_le (by simp), hn]; exact this
theorem maxT_raw (hh : A.handled = none) (hl : s.heap.IsTuple l its.toArray) (hi : IntsAre its ns) (hne : 0 < ns.length)
    (h : ∀ h' tk M t', (∀ b o, s.heap.get? b = some o → h'.get? b = some o) → M ∈ ns → (∀ a, a ∈ ns → a ≤ M) → Q (.int M t') { s with heap := h', toks := tk }) : wpAny (model prog w) A (call (.builtin "max") [.ref l]) Q E s := by
  obtain ⟨xs, e⟩ := hi.allInts.items
  have hn : numsOf (intItems xs).toList = ns := by rw [← e]; exact hi.numsOf
  rw [nums_intItems] at hn
  subst hn
  rw [e] at hl
  have hsz : 0 < xs.size := by simpa using hne
  obtain ⟨o, ho, hc, n, hd⟩ := id hl
  have hne : l ≠ s.heap.objs.size := Nat.ne_of_lt (Heap.lt_size ho)
  have hz : (intItems xs).size = xs.size := by simp [intItems]
  have W := (Walks.tuple (prog := prog) (w := w) (A := A.in1) hh s.heap.objs.size l hne (intItems xs)).toS
  rw [hz] at W
  refine call_max_walkS (wpAny_pyIter_tuple hl ?_)
  refine ⟨s.heap.objs.size, _, _, _, _, _, _, _, rfl, W, ⟨⟨_, Heap.get?_push_size _ rfl, rfl, rfl⟩, hl.at fun o e => Heap.get?_push_of_some _ e⟩, fun b hb => ?_, hsz, CmpOf.ints_gt (numAt xs) (fun _ _ => intItems_at), fun v s' hP hm => ?_⟩
  · rcases List.mem_cons.mp hb with rfl | hb
    · exact Heap.lt_size (Heap.get?_push_size _ rfl)
    · obtain rfl := List.mem_singleton.mp hb
      exact Heap.lt_size (Heap.get?_push_of_some _ ho)
  · obtain ⟨t, rfl⟩ := intItems_at hP
    obtain ⟨h1, h2⟩ := argBest_gt (numAt xs) (xs.size - 1)
    obtain ⟨h', g', d', tk', os'⟩ := s'
    have e1 : g' = s.gens := hm.gens
    have e2 : d' = s.drawn := hm.drawn
    have e3 : os' = s.os := hm.os
    subst e1 e2 e3
    refine h h' tk' _ t (fun b o e => hm.heap b o (fun hb => absurd (Heap.lt_size e) ((List.mem_singleton.mp hb) ▸ Nat.lt_irrefl _)) (Heap.get?_push_of_some _ e)) ?_ fun a ha => ?_
    · rw [numAt_eq]; exact PySem.getD_mem (by rw [List.length_map, Array.length_toList]; omega)
    · obtain ⟨j, hj, rfl⟩ := mem_getD ha
      rw [List.length_map, Array.length_toList] at hj
      rw [← numAt_eq]; exact h2 j (by omega)
theorem minT_raw (hh : A.handled = none) (hl : s.heap.IsTuple l its.toArray) (hi : IntsAre its ns) (hne : 0 < ns.length)
    (h : ∀ h' tk M t', (∀ b o, s.heap.get? b = some o → h'.get? b = some o) → M ∈ ns → (∀ a, a ∈ ns → M ≤ a) → Q (.int M t') { s with heap := h', toks := tk }) : wpAny (model prog w) A (call (.builtin "min") [.ref l]) Q E s := by
  obtain ⟨xs, e⟩ := hi.allInts.items
  have hn : numsOf (intItems xs).toList = ns := by rw [← e]; exact hi.numsOf
  rw [nums_intItems] at hn
  subst hn
  rw [e] at hl
  have hsz : 0 < xs.size := by simpa using hne
  obtain ⟨o, ho, hc, n, hd⟩ := id hl
  have hne : l ≠ s.heap.objs.size := Nat.ne_of_lt (Heap.lt_size ho)
  have hz : (intItems xs).size = xs.size := by simp [intItems]
  have W := (Walks.tuple (prog := prog) (w := w) (A := A.in1) hh s.heap.objs.size l hne (intItems xs)).toS
  rw [hz] at W
  refine call_min_walkS (wpAny_pyIter_tuple hl ?_)
  refine ⟨s.heap.objs.size, _, _, _, _, _, _, _, rfl, W, ⟨⟨_, Heap.get?_push_size _ rfl, rfl, rfl⟩, hl.at fun o e => Heap.get?_push_of_some _ e⟩, fun b hb => ?_, hsz, CmpOf.ints_lt (numAt xs) (fun _ _ => intItems_at), fun v s' hP hm => ?_⟩
  · rcases List.mem_cons.mp hb with rfl | hb
    · exact Heap.lt_size (Heap.get?_push_size _ rfl)
    · obtain rfl := List.mem_singleton.mp hb
      exact Heap.lt_size (Heap.get?_push_of_some _ ho)
  · obtain ⟨t, rfl⟩ := intItems_at hP
    obtain ⟨h1, h2⟩ := argBest_lt (numAt xs) (xs.size - 1)
    obtain ⟨h', g', d', tk', os'⟩ := s'
    have e1 : g' = s.gens := hm.gens
    have e2 : d' = s.drawn := hm.drawn
    have e3 : os' = s.os := hm.os
    subst e1 e2 e3
    refine h h' tk' _ t (fun b o e => hm.heap b o (fun hb => absurd (Heap.lt_size e) ((List.mem_singleton.mp hb) ▸ Nat.lt_irrefl _)) (Heap.get?_push_of_some _ e)) ?_ fun a ha => ?_
    · rw [numAt_eq]; exact PySem.getD_mem (by rw [List.length_map, Array.length_toList]; omega)
    · obtain ⟨j, hj, rfl⟩ := mem_getD ha
      rw [List.length_map, Array.length_toList] at hj
      rw [← numAt_eq]; exact h2 j (by omega)
end
abbrev SqA (K : PySem.W.Frag) (H : Hp) (a : Addr) (xs : List V) : Prop := SqL K H a xs ∨ SqT K H a xs
section
variable {X : Cx}
def rSumA (K : PySem.W.Frag) : List V → Hp → VK → Prop := fun vs H Q => ∃ (a : Addr) (ns : List Int), vs = [V.ref a] ∧ SqA K H a (ns.map V.int) ∧ Q (.int ns.sum) H
def rMaxA (K : PySem.W.Frag) : List V → Hp → VK → Prop := fun vs H Q => ∃ (a : Addr) (ns : List Int), vs = [V.ref a] ∧ SqA K H a (ns.map V.int) ∧ 0 < ns.length ∧ ∀ m, m ∈ ns → (∀ y, y ∈ ns → y ≤ m) → Q (.int m) H
def rMinA (K : PySem.W.Frag) : List V → Hp → VK → Prop := fun vs H Q => ∃ (a : Addr) (ns : List Int), vs = [V.ref a] ∧ SqA K H a (ns.map V.int) ∧ 0 < ns.length ∧ ∀ m, m ∈ ns → (∀ y, y ∈ ns → m ≤ y) → Q (.int m) H
theorem cr_sumA (hc : X.calm = true) : CallR X (.builtin "sum") (rSumA X.K) := by
  intro pins s σ H vs us Q I r h
  obtain ⟨a, ns, rfl, hs, q⟩ := h
  rw [Vals.ref1 r]
  rcases hs with hs | hs
  · obtain ⟨its, rv, hl, _⟩ := I.list hs
    exact sum_raw (I.ok.hd hc) hl.isList rv.ints fun h' tk t' hk => ⟨.int _, H, I.kept hk, ⟨_, rfl⟩, q⟩
  · obtain ⟨its, rv, hl, _⟩ := I.tuple hs
    exact sumT_raw (I.ok.hd hc) hl rv.ints fun h' tk t' hk => ⟨.int _, H, I.kept hk, ⟨_, rfl⟩, q⟩
theorem cr_maxA (hc : X.calm = true) : CallR X (.builtin "max") (rMaxA X.K) := by
  intro pins s σ H vs us Q I r h
  obtain ⟨a, ns, rfl, hs, hne, q⟩ := h
  rw [Vals.ref1 r]
  rcases hs with hs | hs
  · obtain ⟨its, rv, hl, _⟩ := I.list hs
    exact max_raw (I.ok.hd hc) hl.isList rv.ints hne fun h' tk m t' hk h1 h2 => ⟨.int _, H, I.kept hk, ⟨_, rfl⟩, q m h1 h2⟩
  · obtain ⟨its, rv, hl, _⟩ := I.tuple hs
    exact maxT_raw (I.ok.hd hc) hl rv.ints hne fun h' tk m t' hk h1 h2 => ⟨.int _, H, I.kept hk, ⟨_, rfl⟩, q m h1 h2⟩
theorem cr_minA (hc : X.calm = true) : CallR X (.builtin "min") (rMinA X.K) := by
  intro pins s σ H vs us Q I r h
  obtain ⟨a, ns, rfl, hs, hne, q⟩ := h
  rw [Vals.ref1 r]
  rcases hs with hs | hs
  · obtain ⟨its, rv, hl, _⟩ := I.list hs
    exact min_raw (I.ok.hd hc) hl.isList rv.ints hne fun h' tk m t' hk h1 h2 => ⟨.int _, H, I.kept hk, ⟨_, rfl⟩, q m h1 h2⟩
  · obtain ⟨its, rv, hl, _⟩ := I.tuple hs
    exact minT_raw (I.ok.hd hc) hl rv.ints hne fun h' tk m t' hk h1 h2 => ⟨.int _, H, I.kept hk, ⟨_, rfl⟩, q m h1 h2⟩
end
def seqA : D → Option (List D)
  | .lst ds => some ds
  | .fz ds => some ds
  | .tup ds => some ds
  | _ => none
theorem seqA_ok {K : PySem.W.Frag} {H : Hp} {F : Addr → Prop} {d : D} {ds : List D} {v : V} (h : Now K F H d v) (e : seqA d = some ds) : ∃ a xs, v = .ref a ∧ SqA K H a xs ∧ RepL K F H ds xs := by
  cases d with
  | lst ds' =>
    cases e
    obtain ⟨a, xs, e, h1, r⟩ := h.sql
    exact ⟨a, xs, e, .inl h1, r⟩
  | fz ds' =>
    cases e
    obtain ⟨a, xs, e, h1, r⟩ := h.fz
    exact ⟨a, xs, e, .inl h1, r⟩
  | tup ds' =>
    cases e
    obtain ⟨a, xs, e, h1, r⟩ := h.tup
    exact ⟨a, xs, e, .inr h1.sq, r⟩
  | _ => cases e
def seqInts (d : D) : Option (List Int) := match seqA d with
  | some ds => intsOf ds
  | none => none
theorem seqInts_ok {K : PySem.W.Frag} {H : Hp} {F : Addr → Prop} {d : D} {ns : List Int} {v : V} (h : Now K F H d v) (e : seqInts d = some ns) : ∃ a, v = .ref a ∧ SqA K H a (ns.map V.int) := by
  unfold seqInts at e
  cases q : seqA d with
  | none => rw [q] at e; cases e
  | some ds =>
    rw [q] at e
    obtain ⟨a, xs, e1, h1, r⟩ := seqA_ok h q
    rw [intsOf_eq e] at r
    rw [r.ints] at h1
    exact ⟨a, e1, h1⟩
def sumA : D → Store → Out Sl := fun d μ => match seqInts d with
  | some ns => okV (.int ns.sum) μ
  | none => .stuck
def maxA : D → Store → Out Sl := fun d μ => match seqInts d with
  | some (n :: ns) => okV (.int (maxL (n :: ns))) μ
  | _ => .stuck
def minA : D → Store → Out Sl := fun d μ => match seqInts d with
  | some (n :: ns) => okV (.int (minL (n :: ns))) μ
  | _ => .stuck
section
variable {K : PySem.W.Frag}
theorem cld_sumA : CallD K (rSumA K) (gc1 sumA) := cld1 fun G μ H σ W a x Q R ra p => by
  unfold sumA at p
  split at p
  · rename_i ns e
    obtain ⟨t, rfl, h1⟩ := seqInts_ok ra e
    exact ⟨_, _, rfl, h1, Post.val R p (.int _)⟩
  · exact p.elim
theorem cld_maxA : CallD K (rMaxA K) (gc1 maxA) := cld1 fun G μ H σ W a x Q R ra p => by
  unfold maxA at p
  split at p
  · rename_i n ns e
    obtain ⟨t, rfl, h1⟩ := seqInts_ok ra e
    exact ⟨_, _, rfl, h1, by simp, fun m hm hle => by rw [maxL_ok hm hle] at p; exact Post.val R p (.int _)⟩
  · exact p.elim
theorem cld_minA : CallD K (rMinA K) (gc1 minA) := cld1 fun G μ H σ W a x Q R ra p => by
  unfold minA at p
  split at p
  · rename_i n ns e
    obtain ⟨t, rfl, h1⟩ := seqInts_ok ra e
    exact ⟨_, _, rfl, h1, by simp, fun m hm hle => by rw [minL_ok hm hle] at p; exact Post.val R p (.int _)⟩
  · exact p.elim
end
/-! ### helps for the plain part -/
theorem rangeD0 (n : Nat) : rangeD 0 n = (List.range n).map fun i : Nat => D.int i := by
  unfold rangeD
  refine List.map_congr_left fun i _ => ?_
  rw [Int.zero_add]
section
variable {α β : Type}
theorem cloop_on {enc : α → D} {t : CT} {ft : FT} {fe : FE} {ρ : Env} {μ : Store} (p : α → Bool) (g : α → D) (xs : List α) (hl : xs.length ≤ lim)
    (h : ∀ x ∈ xs, ∃ ρ1, t.put (enc x) ρ = some ρ1 ∧ ft ρ1 μ = .ok (p x) μ ∧ (p x = true → fe ρ1 μ = .ok (.v (g x)) μ)) : cLoop t ft fe ρ (xs.map enc) μ [] = .ok ((xs.filter p).map g) μ := by
  have key : ∀ (xs : List α) (acc : List D), acc.length + xs.length ≤ lim → (∀ x ∈ xs, ∃ ρ1, t.put (enc x) ρ = some ρ1 ∧ ft ρ1 μ = .ok (p x) μ ∧ (p x = true → fe ρ1 μ = .ok (.v (g x)) μ)) →
      cLoop t ft fe ρ (xs.map enc) μ acc = .ok (acc ++ (xs.filter p).map g) μ := by
    intro xs
    induction xs with
    | nil => intro acc _ _; simp [cLoop]
    | cons d ds ih =>
      intro acc hl h
      rw [List.length_cons] at hl
      obtain ⟨ρ1, e1, e2, e3⟩ := h d List.mem_cons_self
      have hr := fun x m => h x (List.mem_cons_of_mem d m)
      rw [List.map_cons]
      unfold cLoop
      rw [e1]
      cases q : p d with
      | true =>
        simp only [e2, q, e3 q]
        rw [if_pos (show acc.length < lim by omega), ih (acc ++ [g d]) (by rw [List.length_append, List.length_singleton]; omega) hr]
        simp [List.filter_cons, q]
      | false =>
        simp only [e2, q]
        rw [ih acc (by omega) hr]
        simp [List.filter_cons, q]
  simpa using key xs [] (by simpa using hl) h
theorem cloop_all {enc : α → D} {t : CT} {fe : FE} {ρ : Env} {μ : Store} (g : α → D) (xs : List α) (hl : xs.length ≤ lim)
    (h : ∀ x ∈ xs, ∃ ρ1, t.put (enc x) ρ = some ρ1 ∧ fe ρ1 μ = .ok (.v (g x)) μ) : cLoop t fYes fe ρ (xs.map enc) μ [] = .ok (xs.map g) μ := by
  rw [cloop_on (fun _ => true) g xs hl fun d m => by
    obtain ⟨ρ1, e1, e2⟩ := h d m
    exact ⟨ρ1, e1, rfl, fun _ => e2⟩]
  rw [List.filter_eq_self.mpr fun _ _ => rfl]
theorem atI_on (enc : α → D) (xs : List α) (k : Nat) : atI (xs.map enc) (k : Int) = (xs[k]?).map enc := by
  unfold atI ixN
  rw [if_pos (by omega)]
  by_cases h : k < xs.length
  · rw [if_pos (by rw [List.length_map]; omega)]
    simp
  · rw [if_neg (by rw [List.length_map]; omega), List.getElem?_eq_none (by omega)]
    rfl
/-- the loop over a list, by the part that is done -/
theorem forL_pre {enc : α → D} {tg : FG} {body : FS} (xs : List α) (I : List α → Env → Store → Prop) {ρ : Env} {μ : Store} (h0 : I [] ρ μ)
    (hs : ∀ pre x rest, xs = pre ++ x :: rest → ∀ ρ μ, I pre ρ μ → ∃ ρ1 μ1 ρ2 μ2, tg (.v (enc x)) ρ μ = some (ρ1, μ1) ∧ body ρ1 μ1 = .go .nx ρ2 μ2 ∧ I (pre ++ [x]) ρ2 μ2) : ∃ ρ' μ', sForL tg body (xs.map enc) ρ μ = .go .nx ρ' μ' ∧ I xs ρ' μ' := by
  obtain ⟨ρ', μ', e, h⟩ := forL_inv (ds := xs.map enc) (ρ := ρ) (μ := μ) (tg := tg) (body := body) (fun i ρ μ => I (xs.take i) ρ μ) (by simpa using h0) (fun i d ρ μ hd hi => by
    have hl : i < xs.length := by
      have := (List.getElem?_eq_some_iff.mp hd).1
      simpa using this
    have e : d = enc xs[i] := by
      rw [List.getElem?_map, List.getElem?_eq_getElem hl] at hd
      simpa using hd.symm
    subst e
    obtain ⟨ρ1, μ1, ρ2, μ2, e1, e2, h⟩ := hs (xs.take i) xs[i] (xs.drop (i + 1)) (by simp) ρ μ hi
    exact ⟨ρ1, μ1, ρ2, μ2, e1, e2, by rw [List.take_succ, List.getElem?_eq_getElem hl]; exact h⟩)
  exact ⟨ρ', μ', e, by simpa using h⟩
theorem intsOf_on (f : α → Int) : ∀ xs : List α, intsOf (xs.map fun x => D.int (f x)) = some (xs.map f)
  | [] => rfl
  | x :: xs => by
    show (intsOf (xs.map fun x => D.int (f x))).map (f x :: ·) = _
    rw [intsOf_on f xs]
    rfl
end
/-! ints are sorted -/
def srtB (b : Bool) (xs : List Int) : List Int := xs.mergeSort fun x y => if b then decide (y ≤ x) else decide (x ≤ y)
theorem sortDr_ints (b : Bool) (xs : List Int) : sortDr b (xs.map .int) = (srtB b xs).map .int := by
  unfold sortDr srtB
  rw [List.map_mergeSort]
  intro x _ y _
  cases b with
  | false =>
    have h := congrFun (congrFun (PySem.W.dataLe_int (fun p : Int => p)) x) y
    rw [PySem.W.dataLe_eq] at h ⊢
    simp only [D.py]
    exact h.symm
  | true =>
    have h := congrFun (congrFun (PySem.W.dataLe_int (fun p : Int => p)) y) x
    rw [PySem.W.dataLe_eq] at h ⊢
    simp only [D.py]
    exact h.symm
theorem sortOk_intL (xs : List Int) : sortOk (xs.map .int) = true := by
  unfold sortOk
  simp only [List.all_map, Bool.and_eq_true, Bool.or_eq_true]
  refine ⟨List.all_eq_true.mpr fun p _ => shp_ok (shp_int p 64), List.all_eq_true.mpr fun p _ => List.all_eq_true.mpr fun q _ => ?_, .inr (List.all_eq_true.mpr fun p _ => ?_)⟩
  · show PySem.W.alike (D.int p).py (D.int q).py = true
    simp only [D.py]
    simp [PySem.W.alike]
  · simp [D.py, isNT]
theorem sortF2_on (nb b : Bool) (d : D) (xs : List Int) (hd : seqOf d = some (xs.map .int)) (μ : Store) : sortF2 nb b d μ = mk nb (.lst ((srtB b xs).map .int)) μ := by
  unfold sortF2
  rw [hd]
  simp only
  rw [if_pos (sortOk_intL xs), sortDr_ints]
theorem srtB_perm (b : Bool) (xs : List Int) : (srtB b xs).Perm xs := List.mergeSort_perm _ _
theorem srtB_desc (xs : List Int) : (srtB true xs).Pairwise fun a b => b ≤ a := by
  have s : (srtB true xs).Pairwise fun a b => decide (b ≤ a) = true := List.pairwise_mergeSort (fun a b c => by simp only [if_true, decide_eq_true_eq]; omega) (fun a b => by simp only [if_true, Bool.or_eq_true, decide_eq_true_eq]; omega) _
  exact s.imp fun q => of_decide_eq_true q
theorem srtB_asc (xs : List Int) : (srtB false xs).Pairwise fun a b => a ≤ b := by
  have s : (srtB false xs).Pairwise fun a b => decide (a ≤ b) = true := List.pairwise_mergeSort (fun a b c => by simp only [Bool.false_eq_true, if_false, decide_eq_true_eq]; omega) (fun a b => by simp only [Bool.false_eq_true, if_false, Bool.or_eq_true, decide_eq_true_eq]; omega) _
  exact s.imp fun q => of_decide_eq_true q
/-! loops that may be left -/
section
variable {α : Type} {enc : α → D} {tg : FG} {body : FS}
theorem forL_allR (I : Env → Store → Prop) (good : α → Bool) (s : Sl) : ∀ (xs : List α) (ρ : Env) (μ : Store), I ρ μ →
    (∀ x ∈ xs, ∀ ρ μ, I ρ μ → ∃ ρ1 μ1, tg (.v (enc x)) ρ μ = some (ρ1, μ1) ∧ (good x = true → ∃ ρ2 μ2, body ρ1 μ1 = .go .nx ρ2 μ2 ∧ I ρ2 μ2) ∧ (good x = false → ∃ ρ2 μ2, body ρ1 μ1 = .go (.rt s) ρ2 μ2)) →
    (xs.all good = true → ∃ ρ' μ', sForL tg body (xs.map enc) ρ μ = .go .nx ρ' μ' ∧ I ρ' μ') ∧ (xs.all good = false → ∃ ρ' μ', sForL tg body (xs.map enc) ρ μ = .go (.rt s) ρ' μ')
  | [], ρ, μ, h, _ => ⟨fun _ => ⟨ρ, μ, rfl, h⟩, fun z => by simp at z⟩
  | x :: xs, ρ, μ, h, hs => by
    obtain ⟨ρ1, μ1, e1, hg, hb⟩ := hs x List.mem_cons_self ρ μ h
    rw [List.map_cons, List.all_cons]
    unfold sForL
    rw [e1]
    cases q : good x with
    | true =>
      obtain ⟨ρ2, μ2, e2, i2⟩ := hg q
      simp only [e2, SOut.turn, Bool.true_and]
      exact forL_allR I good s xs ρ2 μ2 i2 fun y m => hs y (List.mem_cons_of_mem _ m)
    | false =>
      obtain ⟨ρ2, μ2, e2⟩ := hb q
      simp only [e2, SOut.turn]
      exact ⟨fun z => by simp at z, fun _ => ⟨ρ2, μ2, rfl⟩⟩
theorem forL_allX (I : Env → Store → Prop) (good : α → Bool) (e : Exc) : ∀ (xs : List α) (ρ : Env) (μ : Store), I ρ μ →
    (∀ x ∈ xs, ∀ ρ μ, I ρ μ → ∃ ρ1 μ1, tg (.v (enc x)) ρ μ = some (ρ1, μ1) ∧ (good x = true → ∃ ρ2 μ2, body ρ1 μ1 = .go .nx ρ2 μ2 ∧ I ρ2 μ2) ∧ (good x = false → ∃ ρ2 μ2, body ρ1 μ1 = .exc e ρ2 μ2)) →
    (xs.all good = true → ∃ ρ' μ', sForL tg body (xs.map enc) ρ μ = .go .nx ρ' μ' ∧ I ρ' μ') ∧ (xs.all good = false → ∃ ρ' μ', sForL tg body (xs.map enc) ρ μ = .exc e ρ' μ')
  | [], ρ, μ, h, _ => ⟨fun _ => ⟨ρ, μ, rfl, h⟩, fun z => by simp at z⟩
  | x :: xs, ρ, μ, h, hs => by
    obtain ⟨ρ1, μ1, e1, hg, hb⟩ := hs x List.mem_cons_self ρ μ h
    rw [List.map_cons, List.all_cons]
    unfold sForL
    rw [e1]
    cases q : good x with
    | true =>
      obtain ⟨ρ2, μ2, e2, i2⟩ := hg q
      simp only [e2, SOut.turn, Bool.true_and]
      exact forL_allX I good e xs ρ2 μ2 i2 fun y m => hs y (List.mem_cons_of_mem _ m)
    | false =>
      obtain ⟨ρ2, μ2, e2⟩ := hb q
      simp only [e2, SOut.turn]
      exact ⟨fun z => by simp at z, fun _ => ⟨ρ2, μ2, rfl⟩⟩
end
/-! a comprehension that draws -/
abbrev LiD (xs : List Int) : D := .lst (xs.map .int)
theorem draw_loop {t : Nat} {fe : FE} {ρ : Env} {ν : Store} (k : Int) (hk : 0 < k) (g : Int → Int) (hfe : ∀ (d : D) (deck : List Int), fe (ρ.set t (some (.v d))) (some (LiD deck) :: ν) = .ok (.v (.int (g (tk deck k)))) (some (LiD deck.dropLast) :: ν)) :
    ∀ (ds : List D) (deck : List Int) (acc : List D), acc.length + ds.length ≤ lim → ∃ (as deck' : List Int), cLoop (.nm t) fYes fe ρ ds (some (LiD deck) :: ν) acc = .ok (acc ++ (as.map g).map .int) (some (LiD deck') :: ν) ∧ as.length = ds.length ∧ ∀ a ∈ as, 0 ≤ a ∧ a < k
  | [], deck, acc, _ => ⟨[], deck, by simp [cLoop], rfl, by simp⟩
  | d :: ds, deck, acc, hl => by
    rw [List.length_cons] at hl
    have q1 := tk_nonneg deck (k := k) hk
    have q2 := tk_lt deck (k := k) hk
    have h := hfe d deck
    obtain ⟨as, deck', e, h1, h2⟩ := draw_loop k hk g hfe ds deck.dropLast (acc ++ [.int (g (tk deck k))]) (by rw [List.length_append, List.length_singleton]; omega)
    refine ⟨tk deck k :: as, deck', ?_, by simp [h1], ?_⟩
    · rw [cLoop]
      have hlt : acc.length < lim := by omega
      simp only [CT.put, fYes, h, if_pos hlt]
      rw [e]
      simp
    · intro a ha
      rcases List.mem_cons.mp ha with rfl | ha
      · exact ⟨q1, q2⟩
      · exact h2 a ha
end DL

namespace DL
open PySem PySem.Spec PyProof.Rows L2
/-! ### len(set(..)) of ints -/
def ded (ns : List Int) : List Int := ns.foldl step_dedup []
theorem ded_snoc (ns : List Int) (x : Int) : ded (ns ++ [x]) = step_dedup (ded ns) x := by
  unfold ded
  rw [List.foldl_append]
  rfl
theorem ded_ok (ns : List Int) : (ded ns).Nodup ∧ ∀ k, k ∈ ded ns ↔ k ∈ ns := by
  generalize hr : ns.reverse = r
  induction r generalizing ns with
  | nil =>
    have e : ns = [] := by simpa using hr
    subst e
    exact ⟨List.nodup_nil, fun k => Iff.rfl⟩
  | cons x r ih =>
    have e : ns = r.reverse ++ [x] := by rw [← List.reverse_cons, ← hr, List.reverse_reverse]
    obtain ⟨i1, i2⟩ := ih r.reverse (by simp)
    subst e
    rw [ded_snoc]
    unfold step_dedup
    by_cases q : (ded r.reverse).any (· == x) = true
    · rw [if_pos q]
      obtain ⟨y, hy, ey⟩ := List.any_eq_true.mp q
      have ey := eq_of_beq ey
      subst ey
      refine ⟨i1, fun k => ?_⟩
      rw [i2, List.mem_append, List.mem_singleton]
      exact ⟨.inl, fun z => by
        rcases z with z | rfl
        · exact z
        · exact (i2 _).mp hy⟩
    · rw [if_neg q]
      have nx : x ∉ ded r.reverse := fun m => q (List.any_eq_true.mpr ⟨x, m, by simp⟩)
      refine ⟨?_, fun k => ?_⟩
      · rw [List.nodup_append]
        refine ⟨i1, by simp, fun a ha b hb => ?_⟩
        rw [List.mem_singleton.mp hb]
        intro z
        exact nx (z ▸ ha)
      · rw [List.mem_append, List.mem_append, i2]
theorem met_ded (ns : List Int) : PyProof.Rows.firstMet (fun i => ns.getD i 0) ns.length = ded ns := by
  unfold PyProof.Rows.firstMet ded
  congr 1
  apply List.ext_getElem
  · simp
  · intro i h1 h2
    simp [h2]
theorem ded_length_le (ns : List Int) : (ded ns).length ≤ ns.length := by
  rw [← met_ded]
  exact PyProof.Rows.firstMet_length_le _ _
def tLenSetA (K : PySem.W.Frag) (ta : TE) : TE := fun σ H Q => ta σ H fun x H1 => ∃ (l : Addr) (ns : List Int), x = .ref l ∧ SqA K H1 l (ns.map V.int) ∧ ns.length ≤ 4000 ∧ Q (.int ((ded ns).length : Nat)) H1
theorem pe_lenSetA {X : Cx} {a : Expr} {ta : TE} {p p2 q pos : Pos} (hc : X.calm = true) (hg : Gl X "len") (hm : X.mg "len" = none) (hg2 : Gl X "set") (hm2 : X.mg "set" = none) (ha : PE X a ta)
    (na : starEach [a] X.env = (false, eval a X.env) :: starEach [] X.env := by rfl) : PE X (.Call (.Name "len" p) [.Call (.Name "set" p2) [a] [] q] [] pos) (tLenSetA X.K ta) := by
  refine ⟨fun pins s σ H Q I h => Call_ (ld_blt I hg hm PySem.boot_len (PyProof.Rows.callWith_builtin1 (PyProof.Rows.args_cons ?_ rfl) rfl rfl))⟩
  refine Call_ (ld_blt I hg2 hm2 PyProof.Rows.boot_set (PyProof.Rows.callWith_type1 (PyProof.Rows.args_cons (thn (ha.run pins s σ H _ I h) fun v s1 ⟨x, H1, I1, r1, q1⟩ => PyProof.Rows.args_nil ?_) na) na rfl))
  obtain ⟨l, ns, rfl, hq, hl, q1⟩ := q1
  cases r1
  have dl := ded_length_le ns
  rcases hq with hq | hq
  · obtain ⟨its, r, pl, hz⟩ := I1.list hq
    have hlen : its.toArray.size = ns.length := by
      rw [List.size_toArray, ← r.length]
      exact List.length_map ..
    refine call_set_list (I1.ok.hd hc) (ns := ns) pl.isList (by simpa using r.ints) (by rw [hlen]; show _ < scanBound; unfold scanBound; omega) fun h' tk hS hk => PyProof.Rows.args_nil ?_
    rw [hlen, met_ded] at hS
    obtain ⟨o, es, ep, t, ho, hex, hd, _, _, _, hf, hn⟩ := hS
    have I2 : Inv X pins σ H1 { s1 with heap := h', toks := tk } := I1.kept fun b o e => hk b o (Heap.lt_size e) e
    exact call_len_set ho hex hd hf (by rw [hn]; omega) ⟨.int (ded ns).length, H1, I2.tok _, ⟨_, by rw [hn]⟩, q1⟩
  · obtain ⟨its, r, pl, hz⟩ := I1.tuple hq
    refine call_set_tupI ns (I1.ok.hd hc) pl (by simpa using r.ints) (by unfold scanBound; omega) fun h' tk c hS hc2 hk => PyProof.Rows.args_nil ?_
    obtain ⟨o, es, ep, t, ho, hex, hd, _, nd, hm, _, hf, hn, _, _⟩ := hS
    have I2 : Inv X pins σ H1 { s1 with heap := h', toks := tk } := I1.kept fun b o e => hk b o e
    obtain ⟨d1, d2⟩ := ded_ok ns
    have hs : es.size = (ded ns).length := by
      have pm : (es.toList.map keyOf).Perm (ded ns) := (List.perm_ext_iff_of_nodup nd d1).mpr fun k => by rw [← hm k, d2]; exact decide_eq_true_iff
      have := pm.length_eq
      rw [List.length_map] at this
      simpa using this
    exact call_len_set ho hex hd hf (by rw [hs]; omega) ⟨.int (ded ns).length, H1, I2.tok _, ⟨_, by rw [hs]⟩, q1⟩
def fLenSet (f : FE) : FE := fun ρ μ => (f ρ μ).bind fun s μ1 => match s.get μ1 with
  | some d => (match seqInts d with
    | some ns => if ns.length ≤ 4000 then okV (.int ((ded ns).length : Nat)) μ1 else .stuck
    | none => .stuck)
  | none => .stuck
theorem de_lenSet {X : Cx} {P : PX} {W : WX} {a : Expr} {fa : FE} {p p2 q pos : Pos} (hc : X.calm = true) (hg : Gl X "len") (hm : X.mg "len" = none) (hg2 : Gl X "set") (hm2 : X.mg "set" = none) (ha : DE X P W a fa)
    (na : starEach [a] X.env = (false, eval a X.env) :: starEach [] X.env := by rfl) : DE X P W (.Call (.Name "len" p) [.Call (.Name "set" p2) [a] [] q] [] pos) (fLenSet fa) := (pe_lenSetA hc hg hm hg2 hm2 ha na).to fun σ H Q h => by
  obtain ⟨G, μ, ρ, he, h⟩ := h
  refine ⟨G, μ, ρ, he, Post.bind h fun s μ1 x G1 H1 x1 R1 r1 h1 => ?_⟩
  cases e : s.get μ1 with
  | none => rw [e] at h1; exact h1.elim
  | some d =>
    rw [e] at h1
    cases e2 : seqInts d with
    | none => simp only [e2] at h1; exact h1.elim
    | some ns =>
      simp only [e2] at h1
      by_cases hl : ns.length ≤ 4000
      · rw [if_pos hl] at h1
        obtain ⟨l, rfl, hq⟩ := seqInts_ok (R1.now r1 e) e2
        exact ⟨l, ns, rfl, hq, hl, Post.val R1 h1 (.int _)⟩
      · rw [if_neg hl] at h1; exact h1.elim
end DL

namespace PT
open PySem PySem.Spec PyProof.Rows L2 DL
def b__law_partition_1 : FS := sSeq (sIf (fTest (fBin (fVar 2) (fC (.int 0)) (g2 eqF))) ((fun ρ μ => .go .bk ρ μ)) (sSkip)) (sSeq (sAsg (fBin (fC (.int 1)) (fCall (m_take) (fCons (fVar 0) (fCons (fCall (gc2 min2F) (fCons (fVar 2) (fCons (fBin (fLst false (fCons (fVar 2) (fCons (fC (.int 4)) (fNil)))) (fCall (m_take) (fCons (fVar 0) (fCons (fC (.int 2)) (fNil)))) (g2 ixF)) (fNil)))) (fNil)))) (g2 (addF false))) (gNm 5)) (sSeq (sDrop (fMeth isLst (fVar 3) (fCons (fVar 5) (fNil)) appendG)) (sAsg (fBin (fVar 2) (fVar 5) (g2 subF)) (gNm 2))))
def b__law_partition : FS := sSeq (sAsg (fCall (m_take) (fCons (fVar 0) (fCons (fBin (fVar 1) (fC (.int 1)) (g2 (addF false))) (fNil)))) (gNm 2)) (sSeq (sAsg (fLst true (fNil)) (gNm 3)) (sSeq (sFor (fRng1 (fCons (fVar 1) (fNil))) (gNm 4) (b__law_partition_1)) (sGhost (tFreeze 3) (sRet (fCall (gc1 tupleF) (fCons (fCall (gc1 (sortF2 false true)) (fCons (fVar 3) (fNil))) (fNil)))))))
def m__law_partition : List Sl → Store → Out Sl := fun ss μ => runC μ.length (b__law_partition (startE 6 ss) μ)
def b__law_all_1 (rec : List Sl → Store → Out Sl) : FS := sDrop (fMeth isLst (fVar 2) (fCons (fComp false [4] (fSeq (fCall (rec) (fCons (fBin (fVar 0) (fVar 3) (g2 subF)) (fCons (fVar 3) (fNil))))) (CT.nm 4) (fYes) (fBin (fTup (fCons (fVar 3) (fNil))) (fVar 4) (g2 (addF false)))) (fNil)) extendG)
def b__law_all (rec : List Sl → Store → Out Sl) : FS := sSeq (sIf (fTest (fBin (fVar 0) (fC (.int 0)) (g2 eqF))) (sRet (fLst false (fCons (fTup (fNil)) (fNil)))) (sSkip)) (sSeq (sAsg (fLst true (fNil)) (gNm 2)) (sSeq (sFor (fRng3 (fCons (fCall (gc2 min2F) (fCons (fVar 0) (fCons (fVar 1) (fNil)))) (fCons (fC (.int 0)) (fCons (fUn (fC (.int 1)) (g1 negF)) (fNil))))) (gNm 3) (b__law_all_1 rec)) (sGhost (tFreeze 2) (sRet (fVar 2)))))
def m__law_all : Nat → List Sl → Store → Out Sl
  | 0 => lift fun _ => .stuck
  | k + 1 => lift (pureOf 5 (b__law_all (m__law_all k)))
def b_partition_behind_1 : FS := sSeq (sDrop (fMeth isLst (fVar 2) (fCons (fCall (gc2 min2F) (fCons (fVar 3) (fCons (fVar 4) (fNil)))) (fNil)) appendG)) (sAsg (fBin (fVar 4) (fBin (fVar 2) (fUn (fC (.int 1)) (g1 negF)) (g2 ixF)) (g2 subF)) (gNm 4))
def b_partition_behind : FS := sSeq (sAsg (fMeth2 (fVar 0) (fCons (fC (.int 1)) (fNil)) countG countTG) (gNm 1)) (sSeq (sIf (fTest (fBin (fVar 1) (fCall (gc1 lenF) (fCons (fVar 0) (fNil))) (g2 eqF))) (sRet (fC .non)) (sSkip)) (sSeq (sAsg (fCall (gc1 (listF true)) (fCons (fSl false (fVar 0) (fNo) (fPart (fBin (fCall (gc1 lenF) (fCons (fVar 0) (fNil))) (fVar 1) (g2 subF)))) (fNil))) (gNm 2)) (sSeq (sAsg (fBin (fMeth isLst (fVar 2) fNil popG) (fC (.int 1)) (g2 subF)) (gNm 3)) (sSeq (sAsg (fBin (fBin (fVar 1) (fVar 3) (g2 (addF false))) (fC (.int 1)) (g2 (addF false))) (gNm 4)) (sSeq (sWhN (fTest (fBin (fVar 4) (fC (.int 0)) (g2 gtF))) (b_partition_behind_1) 1000000) (sGhost (tFreeze 2) (sRet (fCall (gc1 tupleF) (fCons (fVar 2) (fNil))))))))))
def m_partition_behind : List Sl → Store → Out Sl := lift (pureOf 5 b_partition_behind)
def b_pentagonal_terms_1 : FS := sSeq (sAsg (fIf (fTest (fBin (fBin (fVar 2) (fC (.int 2)) (g2 modF)) (fC (.int 1)) (g2 eqF))) (fC (.int 1)) (fUn (fC (.int 1)) (g1 negF))) (gNm 3)) (sSeq (sDrop (fMeth isLst (fVar 1) (fCons (fTup (fCons (fVar 3) (fCons (fBin (fBin (fVar 2) (fBin (fBin (fC (.int 3)) (fVar 2) (g2 (mulF false))) (fC (.int 1)) (g2 subF)) (g2 (mulF false))) (fC (.int 2)) (g2 fdivF)) (fNil)))) (fNil)) appendG)) (sSeq (sDrop (fMeth isLst (fVar 1) (fCons (fTup (fCons (fVar 3) (fCons (fBin (fBin (fVar 2) (fBin (fBin (fC (.int 3)) (fVar 2) (g2 (mulF false))) (fC (.int 1)) (g2 (addF false))) (g2 (mulF false))) (fC (.int 2)) (g2 fdivF)) (fNil)))) (fNil)) appendG)) (sAsg (fBin (fVar 2) (fC (.int 1)) (g2 (addF false))) (gNm 2))))
def b_pentagonal_terms : FS := sSeq (sAsg (fLst true (fNil)) (gNm 1)) (sSeq (sAsg (fC (.int 1)) (gNm 2)) (sSeq (sWhN (fTest (fBin (fBin (fBin (fVar 2) (fBin (fBin (fC (.int 3)) (fVar 2) (g2 (mulF false))) (fC (.int 1)) (g2 subF)) (g2 (mulF false))) (fC (.int 2)) (g2 fdivF)) (fVar 0) (g2 leF))) (b_pentagonal_terms_1) 1000000) (sGhost (tFreeze 1) (sRet (fVar 1)))))
def m_pentagonal_terms : List Sl → Store → Out Sl := lift (pureOf 4 b_pentagonal_terms)
def b_count_partitions_1 : FS := sSeq (sIf (fTest (fBin (fVar 6) (fVar 3) (g2 gtF))) ((fun ρ μ => .go .bk ρ μ)) (sSkip)) (sAsg (fBin (fVar 4) (fBin (fVar 5) (fBin (fVar 1) (fBin (fVar 3) (fVar 6) (g2 subF)) (g2 ixF)) (g2 (mulF false))) (g2 (addF false))) (gNm 4))
def b_count_partitions_2 : FS := sSeq (sAsg (fC (.int 0)) (gNm 4)) (sSeq (sFor (fSeq (fVar 2)) (gUnpA 2 (gsCons (gNm 5) (gsCons (gNm 6) (gsNil)))) (b_count_partitions_1)) (sDrop (fMeth isLst (fVar 1) (fCons (fVar 4) (fNil)) appendG)))
def b_count_partitions : FS := sSeq (sIf (fTest (fBin (fVar 0) (fC (.int 0)) (g2 ltF))) (sRet (fC (.int 0))) (sSkip)) (sSeq (sAsg (fLst true (fCons (fC (.int 1)) (fNil))) (gNm 1)) (sSeq (sAsg (fCall (m_pentagonal_terms) (fCons (fVar 0) (fNil))) (gNm 2)) (sSeq (sFor (fRng2 (fCons (fC (.int 1)) (fCons (fBin (fVar 0) (fC (.int 1)) (g2 (addF false))) (fNil)))) (gNm 3) (b_count_partitions_2)) (sGhost (tFreeze 1) (sRet (fBin (fVar 1) (fVar 0) (g2 ixF)))))))
def m_count_partitions : List Sl → Store → Out Sl := lift (pureOf 7 b_count_partitions)
def b_partitions_of_1 : FS := sSeq (sDrop (fMeth isLst (fVar 1) (fCons (fVar 2) (fNil)) appendG)) (sAsg (fCall (m_partition_behind) (fCons (fVar 2) (fNil))) (gNm 2))
def b_partitions_of : FS := sSeq (sIf (fTest (fBin (fVar 0) (fC (.int 0)) (g2 ltF))) (sRet (fLst false (fNil))) (sSkip)) (sSeq (sIf (fOr (fTest (fBin (fVar 0) (fC (.int 100)) (g2 gtF))) (fTest (fBin (fCall (m_count_partitions) (fCons (fVar 0) (fNil))) (fC (.int 50000)) (g2 gtF)))) (sRaise "TooMany" (fCons (fC (.str "partitions")) (fNil))) (sSkip)) (sSeq (sAsg (fLst true (fNil)) (gNm 1)) (sSeq (sAsg (fIf (fTest (fBin (fVar 0) (fC (.int 0)) (g2 gtF))) (fTup (fCons (fVar 0) (fNil))) (fTup (fNil))) (gNm 2)) (sSeq (sWhN (fTest (fUn (fVar 2) (isNonF true))) (b_partitions_of_1) 1000000) (sGhost (tFreeze 1) (sRet (fVar 1)))))))
def m_partitions_of : List Sl → Store → Out Sl := lift (pureOf 3 b_partitions_of)
def b__law_boxes_1 : FS := sDrop (fMeth isLst (fVar 1) (fCons (fComp false [3] (fRng1 (fCons (fBin (fVar 0) (fVar 2) (g2 ixF)) (fNil))) (CT.nm 3) (fYes) (fTup (fCons (fVar 2) (fCons (fVar 3) (fNil))))) (fNil)) extendG)
def b__law_boxes : FS := sSeq (sAsg (fLst true (fNil)) (gNm 1)) (sSeq (sFor (fRng1 (fCons (fCall (gc1 lenF) (fCons (fVar 0) (fNil))) (fNil))) (gNm 2) (b__law_boxes_1)) (sGhost (tFreeze 1) (sRet (fVar 1))))
def m__law_boxes : List Sl → Store → Out Sl := lift (pureOf 4 b__law_boxes)
def b__law_rows_of : FS := sSeq (sAsg (fBin (fCall (gc1 maxA) (fCons (fBin (fLst false (fCons (fUn (fC (.int 1)) (g1 negF)) (fNil))) (fComp false [3, 4] (fSeq (fVar 0)) (CT.tp [3, 4]) (fYes) (fVar 3)) (g2 (addF false))) (fNil))) (fC (.int 1)) (g2 (addF false))) (gNm 1)) (sRet (fCall (gc1 tupleF) (fCons (fComp false [2] (fRng1 (fCons (fVar 1) (fNil))) (CT.nm 2) (fYes) (fCall (gc1 lenF) (fCons (fComp false [3, 4] (fSeq (fVar 0)) (CT.tp [3, 4]) (fTest (fBin (fVar 3) (fVar 2) (g2 eqF))) (fC (.int 1))) (fNil)))) (fNil))))
def m__law_rows_of : List Sl → Store → Out Sl := lift (pureOf 5 b__law_rows_of)
def b_part : FS := sSeq (sIf (fTest (fBin (fVar 1) (fCall (gc1 lenF) (fCons (fVar 0) (fNil))) (g2 ltF))) (sRet (fBin (fVar 0) (fVar 1) (g2 ixF))) (sSkip)) (sRet (fC (.int 0)))
def m_part : List Sl → Store → Out Sl := lift (pureOf 2 b_part)
def b_conjugate : FS := sRet (fCall (gc1 tupleF) (fCons (fComp false [1] (fRng1 (fCons (fCall (m_part) (fCons (fVar 0) (fCons (fC (.int 0)) (fNil)))) (fNil))) (CT.nm 1) (fYes) (fCall (gc1 lenF) (fCons (fComp false [2] (fSeq (fVar 0)) (CT.nm 2) (fTest (fBin (fVar 2) (fVar 1) (g2 gtF))) (fVar 2)) (fNil)))) (fNil)))
def m_conjugate : List Sl → Store → Out Sl := lift (pureOf 3 b_conjugate)
def b_size : FS := sRet (fCall (gc1 sumA) (fCons (fVar 0) (fNil)))
def m_size : List Sl → Store → Out Sl := lift (pureOf 1 b_size)
def b_hooks : FS := sSeq (sAsg (fCall (m_conjugate) (fCons (fVar 0) (fNil))) (gNm 1)) (sRet (fComp false [2] (fRng1 (fCons (fCall (gc1 lenF) (fCons (fVar 0) (fNil))) (fNil))) (CT.nm 2) (fYes) (fComp false [3] (fRng1 (fCons (fBin (fVar 0) (fVar 2) (g2 ixF)) (fNil))) (CT.nm 3) (fYes) (fBin (fBin (fBin (fBin (fBin (fVar 0) (fVar 2) (g2 ixF)) (fVar 3) (g2 subF)) (fBin (fVar 1) (fVar 3) (g2 ixF)) (g2 (addF false))) (fVar 2) (g2 subF)) (fC (.int 1)) (g2 subF)))))
def m_hooks : List Sl → Store → Out Sl := lift (pureOf 4 b_hooks)
def b_contents : FS := sRet (fComp false [1] (fRng1 (fCons (fCall (gc1 lenF) (fCons (fVar 0) (fNil))) (fNil))) (CT.nm 1) (fYes) (fComp false [2] (fRng1 (fCons (fBin (fVar 0) (fVar 1) (g2 ixF)) (fNil))) (CT.nm 2) (fYes) (fBin (fVar 2) (fVar 1) (g2 subF))))
def m_contents : List Sl → Store → Out Sl := lift (pureOf 3 b_contents)
def b__law_is_shape_1 : FS := sIf (fOr (fAnd (fTest (fBin (fVar 1) (fC (.int 0)) (g2 gtF))) (fTest (fBin (fTup (fCons (fBin (fVar 1) (fC (.int 1)) (g2 subF)) (fCons (fVar 2) (fNil)))) (fVar 0) (g2 (inF true))))) (fAnd (fTest (fBin (fVar 2) (fC (.int 0)) (g2 gtF))) (fTest (fBin (fTup (fCons (fVar 1) (fCons (fBin (fVar 2) (fC (.int 1)) (g2 subF)) (fNil)))) (fVar 0) (g2 (inF true)))))) (sRet (fC (.bl false))) (sSkip)
def b__law_is_shape : FS := sSeq (sFor (fSeq (fVar 0)) (gUnpA 2 (gsCons (gNm 1) (gsCons (gNm 2) (gsNil)))) (b__law_is_shape_1)) (sRet (fC (.bl true)))
def m__law_is_shape : List Sl → Store → Out Sl := lift (pureOf 3 b__law_is_shape)
def b_addable : FS := sRet (fComp false [1] (fRng1 (fCons (fBin (fCall (gc1 lenF) (fCons (fVar 0) (fNil))) (fC (.int 1)) (g2 (addF false))) (fNil))) (CT.nm 1) (fOr (fTest (fBin (fVar 1) (fC (.int 0)) (g2 eqF))) (fTest (fBin (fBin (fVar 0) (fBin (fVar 1) (fC (.int 1)) (g2 subF)) (g2 ixF)) (fCall (m_part) (fCons (fVar 0) (fCons (fVar 1) (fNil)))) (g2 gtF)))) (fVar 1))
def m_addable : List Sl → Store → Out Sl := lift (pureOf 2 b_addable)
def b_added : FS := sSeq (sIf (fTest (fBin (fVar 1) (fCall (m_addable) (fCons (fVar 0) (fNil))) (g2 (inF true)))) (sRaise "InvalidShape" (fCons (fC (.str "row")) (fNil))) (sSkip)) (sRet (fBin (fBin (fSl false (fVar 0) (fNo) (fPart (fVar 1))) (fTup (fCons (fBin (fCall (m_part) (fCons (fVar 0) (fCons (fVar 1) (fNil)))) (fC (.int 1)) (g2 (addF false))) (fNil))) (g2 (addF false))) (fSl false (fVar 0) (fPart (fBin (fVar 1) (fC (.int 1)) (g2 (addF false)))) (fNo)) (g2 (addF false))))
def m_added : List Sl → Store → Out Sl := lift (pureOf 2 b_added)
def b_removable : FS := sRet (fComp false [1] (fRng1 (fCons (fCall (gc1 lenF) (fCons (fVar 0) (fNil))) (fNil))) (CT.nm 1) (fTest (fBin (fBin (fVar 0) (fVar 1) (g2 ixF)) (fCall (m_part) (fCons (fVar 0) (fCons (fBin (fVar 1) (fC (.int 1)) (g2 (addF false))) (fNil)))) (g2 gtF))) (fVar 1))
def m_removable : List Sl → Store → Out Sl := lift (pureOf 2 b_removable)
def b_removed : FS := sSeq (sIf (fTest (fBin (fVar 1) (fCall (m_removable) (fCons (fVar 0) (fNil))) (g2 (inF true)))) (sRaise "InvalidShape" (fCons (fC (.str "row")) (fNil))) (sSkip)) (sSeq (sIf (fTest (fBin (fBin (fVar 0) (fVar 1) (g2 ixF)) (fC (.int 1)) (g2 eqF))) (sRet (fSl false (fVar 0) (fNo) (fPart (fVar 1)))) (sSkip)) (sRet (fBin (fBin (fSl false (fVar 0) (fNo) (fPart (fVar 1))) (fTup (fCons (fBin (fBin (fVar 0) (fVar 1) (g2 ixF)) (fC (.int 1)) (g2 subF)) (fNil))) (g2 (addF false))) (fSl false (fVar 0) (fPart (fBin (fVar 1) (fC (.int 1)) (g2 (addF false)))) (fNo)) (g2 (addF false)))))
def m_removed : List Sl → Store → Out Sl := lift (pureOf 2 b_removed)
def b_partition_of_1 : FS := sIf (fOr (fTest (fBin (fBin (fVar 0) (fVar 1) (g2 ixF)) (fC (.int 1)) (g2 ltF))) (fAnd (fTest (fBin (fVar 1) (fC (.int 0)) (g2 gtF))) (fTest (fBin (fBin (fVar 0) (fVar 1) (g2 ixF)) (fBin (fVar 0) (fBin (fVar 1) (fC (.int 1)) (g2 subF)) (g2 ixF)) (g2 gtF))))) (sRaise "InvalidPartition" (fCons (fC (.str "parts")) (fNil))) (sSkip)
def b_partition_of : FS := sSeq (sFor (fRng1 (fCons (fCall (gc1 lenF) (fCons (fVar 0) (fNil))) (fNil))) (gNm 1) (b_partition_of_1)) (sRet (fCall (gc1 tupleF) (fCons (fVar 0) (fNil))))
def m_partition_of : List Sl → Store → Out Sl := lift (pureOf 2 b_partition_of)
def b_contains_1 : FS := sIf (fTest (fBin (fBin (fVar 1) (fVar 2) (g2 ixF)) (fBin (fVar 0) (fVar 2) (g2 ixF)) (g2 gtF))) (sRet (fC (.bl false))) (sSkip)
def b_contains : FS := sSeq (sIf (fTest (fBin (fCall (gc1 lenF) (fCons (fVar 1) (fNil))) (fCall (gc1 lenF) (fCons (fVar 0) (fNil))) (g2 gtF))) (sRet (fC (.bl false))) (sSkip)) (sSeq (sFor (fRng1 (fCons (fCall (gc1 lenF) (fCons (fVar 1) (fNil))) (fNil))) (gNm 2) (b_contains_1)) (sRet (fC (.bl true))))
def m_contains : List Sl → Store → Out Sl := lift (pureOf 3 b_contains)
def pt (p : List Nat) (r : Nat) : Nat := p.getD r 0
def Par (p : List Nat) : Prop := p.Pairwise (fun a b => b ≤ a) ∧ ∀ x ∈ p, 1 ≤ x
def boxesF : Nat → List Nat → List (Nat × Nat)
  | _, [] => []
  | k, x :: p => (List.range x).map (fun c => (k, c)) ++ boxesF (k + 1) p
abbrev boxes (p : List Nat) : List (Nat × Nat) := boxesF 0 p
theorem boxesF_snoc (x : Nat) : ∀ (p : List Nat) (k : Nat), boxesF k (p ++ [x]) = boxesF k p ++ (List.range x).map fun c => (k + p.length, c)
  | [], k => by simp [boxesF]
  | y :: p, k => by
    simp only [List.cons_append, boxesF, boxesF_snoc x p (k + 1), List.append_assoc, List.length_cons]
    rw [show k + 1 + p.length = k + (p.length + 1) by omega]
theorem pt_lt {p : List Nat} {r : Nat} (h : r < p.length) : pt p r = p[r] := by simp [pt, h]
theorem pt_ge {p : List Nat} {r : Nat} (h : p.length ≤ r) : pt p r = 0 := by simp [pt, h]
theorem pt_cons0 (x : Nat) (p : List Nat) : pt (x :: p) 0 = x := rfl
theorem pt_consS (x : Nat) (p : List Nat) (r : Nat) : pt (x :: p) (r + 1) = pt p r := by simp [pt]
theorem pt_pos {p : List Nat} (h : Par p) {r : Nat} : 0 < pt p r ↔ r < p.length := by
  constructor
  · intro z
    by_cases q : r < p.length
    · exact q
    · rw [pt_ge (by omega)] at z; omega
  · intro z
    rw [pt_lt z]
    exact h.2 _ (List.getElem_mem z)
theorem pt_anti {p : List Nat} (h : Par p) {r s : Nat} (l : r ≤ s) : pt p s ≤ pt p r := by
  by_cases q : s < p.length
  · rw [pt_lt q, pt_lt (by omega : r < p.length)]
    by_cases e : r = s
    · subst e; exact Nat.le_refl _
    · exact List.pairwise_iff_getElem.mp h.1 r s (by omega) q (by omega)
  · rw [pt_ge (by omega)]; omega
theorem mem_boxesF {r c : Nat} : ∀ {p : List Nat} {k : Nat}, (r, c) ∈ boxesF k p ↔ k ≤ r ∧ c < pt p (r - k)
  | [], k => by simp [boxesF, pt]
  | x :: p, k => by
    simp only [boxesF, List.mem_append, List.mem_map, List.mem_range, Prod.mk.injEq, mem_boxesF (p := p)]
    constructor
    · rintro (⟨a, h1, h2, rfl⟩ | ⟨h1, h2⟩)
      · subst h2; simpa [pt] using h1
      · refine ⟨by omega, ?_⟩
        rw [show r - k = (r - (k + 1)) + 1 by omega, pt_consS]; exact h2
    · rintro ⟨h1, h2⟩
      by_cases e : r = k
      · subst e
        rw [Nat.sub_self, pt_cons0] at h2
        exact .inl ⟨c, h2, rfl, rfl⟩
      · refine .inr ⟨by omega, ?_⟩
        rw [show r - k = (r - (k + 1)) + 1 by omega, pt_consS] at h2; exact h2
theorem mem_boxes {p : List Nat} {r c : Nat} : (r, c) ∈ boxes p ↔ c < pt p r := by
  rw [mem_boxesF]; simp
theorem len_boxesF : ∀ (p : List Nat) (k : Nat), (boxesF k p).length = p.sum
  | [], _ => rfl
  | x :: p, k => by simp [boxesF, len_boxesF p]
/-- rows -/
theorem cnt_row (at' : Nat) : ∀ (p : List Nat) (k : Nat), (boxesF k p).countP (fun b => b.1 == at') = if at' < k then 0 else pt p (at' - k)
  | [], k => by simp [boxesF, pt]
  | x :: p, k => by
    rw [boxesF, List.countP_append, cnt_row at' p (k + 1), List.countP_map]
    by_cases e : k = at'
    · subst e
      have : ((fun b : Nat × Nat => b.1 == k) ∘ fun c => (k, c)) = fun _ => true := by funext c; simp
      rw [this]
      simp [pt]
    · have : ((fun b : Nat × Nat => b.1 == at') ∘ fun c => (k, c)) = fun _ => false := by funext c; simp [e]
      rw [this]
      by_cases q : at' < k
      · simp [q, Nat.lt_succ_of_lt q]
      · have q2 : ¬ at' < k + 1 := by omega
        rw [if_neg q2, if_neg q, show at' - k = (at' - (k + 1)) + 1 by omega, pt_consS]
        simp
theorem cnt_range_eq (x c : Nat) : (List.range x).countP (fun d => d == c) = if c < x then 1 else 0 := by
  induction x with
  | zero => simp
  | succ x ih =>
    rw [List.range_succ, List.countP_append, ih]
    by_cases h : c < x
    · have : ¬ x = c := by omega
      simp [h, this, Nat.lt_succ_of_lt h]
    · by_cases e : x = c
      · subst e; simp
      · have : ¬ c < x + 1 := by omega
        simp [h, e, this]
theorem cnt_range_gt (x c : Nat) : (List.range x).countP (fun d => decide (c < d)) = x - c - 1 := by
  induction x with
  | zero => simp
  | succ x ih =>
    rw [List.range_succ, List.countP_append, ih]
    by_cases h : c < x
    · simp [h]; omega
    · simp [h]; omega
theorem cnt_col (c : Nat) : ∀ (p : List Nat) (k : Nat), (boxesF k p).countP (fun b => b.2 == c) = p.countP (fun x => decide (c < x))
  | [], k => by simp [boxesF]
  | x :: p, k => by
    rw [boxesF, List.countP_append, cnt_col c p (k + 1), List.countP_map, List.countP_cons]
    have : ((fun b : Nat × Nat => b.2 == c) ∘ fun c => (k, c)) = fun d => d == c := by funext d; rfl
    rw [this, cnt_range_eq]
    by_cases h : c < x <;> simp [h]; omega
theorem cnt_arm (row c : Nat) : ∀ (p : List Nat) (k : Nat), (boxesF k p).countP (fun b => b.1 == row && decide (c < b.2)) = if row < k then 0 else pt p (row - k) - c - 1
  | [], k => by simp [boxesF, pt]
  | x :: p, k => by
    rw [boxesF, List.countP_append, cnt_arm row c p (k + 1), List.countP_map]
    by_cases e : k = row
    · subst e
      have : ((fun b : Nat × Nat => b.1 == k && decide (c < b.2)) ∘ fun c => (k, c)) = fun d => decide (c < d) := by funext d; simp
      rw [this, cnt_range_gt]
      simp [pt]
    · have : ((fun b : Nat × Nat => b.1 == row && decide (c < b.2)) ∘ fun c => (k, c)) = fun _ => false := by funext d; simp [e]
      rw [this]
      by_cases q : row < k
      · simp [q, Nat.lt_succ_of_lt q]
      · have q2 : ¬ row < k + 1 := by omega
        rw [if_neg q2, if_neg q, show row - k = (row - (k + 1)) + 1 by omega, pt_consS]
        simp
theorem cnt_leg (row c : Nat) : ∀ (p : List Nat) (k : Nat), (boxesF k p).countP (fun b => b.2 == c && decide (row < b.1)) = (p.drop (row + 1 - k)).countP (fun x => decide (c < x))
  | [], k => by simp [boxesF]
  | x :: p, k => by
    rw [boxesF, List.countP_append, cnt_leg row c p (k + 1), List.countP_map]
    by_cases e : row < k
    · have : ((fun b : Nat × Nat => b.2 == c && decide (row < b.1)) ∘ fun c => (k, c)) = fun d => d == c := by funext d; simp [e]
      rw [this, cnt_range_eq, show row + 1 - k = 0 by omega, show row + 1 - (k + 1) = 0 by omega, List.drop_zero, List.drop_zero, List.countP_cons]
      by_cases h : c < x <;> simp [h]; omega
    · have : ((fun b : Nat × Nat => b.2 == c && decide (row < b.1)) ∘ fun c => (k, c)) = fun _ => false := by funext d; simp [e]
      rw [this, show row + 1 - k = (row + 1 - (k + 1)) + 1 by omega, List.drop_succ_cons]
      simp
/-- all rows up to row reach beyond c -/
theorem cnt_split {p : List Nat} (h : Par p) {row c : Nat} (hr : c < pt p row) : p.countP (fun x => decide (c < x)) = row + 1 + (p.drop (row + 1)).countP (fun x => decide (c < x)) := by
  have hl : row < p.length := by
    rw [← pt_pos h]; omega
  have e : p = p.take (row + 1) ++ p.drop (row + 1) := (List.take_append_drop _ _).symm
  have e2 : (p.take (row + 1)).countP (fun x => decide (c < x)) = (p.take (row + 1)).length := by
    rw [List.countP_eq_length]
    intro x hx
    obtain ⟨i, hi, rfl⟩ := List.mem_iff_getElem.mp hx
    rw [List.length_take] at hi
    rw [List.getElem_take]
    have := pt_anti h (show i ≤ row by omega)
    rw [pt_lt (by omega : i < p.length)] at this
    simp; omega
  calc p.countP (fun x => decide (c < x)) = (p.take (row + 1) ++ p.drop (row + 1)).countP (fun x => decide (c < x)) := by rw [← e]
    _ = _ := by rw [List.countP_append, e2, List.length_take, Nat.min_eq_left (by omega)]
/-! conjugate -/
def conj (p : List Nat) : List Nat := (List.range (pt p 0)).map fun c => p.countP fun x => decide (c < x)
theorem pt_conj {p : List Nat} (h : Par p) (c : Nat) : pt (conj p) c = p.countP fun x => decide (c < x) := by
  by_cases l : c < pt p 0
  · rw [pt_lt (by simpa [conj] using l)]
    simp [conj]
  · rw [pt_ge (by simp [conj]; omega)]
    symm
    rw [List.countP_eq_zero]
    intro x hx
    obtain ⟨i, hi, rfl⟩ := List.mem_iff_getElem.mp hx
    have := pt_anti h (Nat.zero_le i)
    rw [pt_lt hi] at this
    simp; omega
theorem conj_pos {p : List Nat} (h : Par p) : ∀ x ∈ conj p, 1 ≤ x := by
  intro x hx
  simp only [conj, List.mem_map, List.mem_range] at hx
  obtain ⟨c, hc, rfl⟩ := hx
  rw [cnt_split h hc]
  omega
theorem conj_getD {p : List Nat} (h : Par p) {row c : Nat} (hr : c < pt p row) : c < (conj p).length := by
  simp only [conj, List.length_map, List.length_range]
  exact Nat.lt_of_lt_of_le hr (pt_anti h (Nat.zero_le _))
/-! rows of boxes -/
def dep : List (Nat × Nat) → Nat
  | [] => 0
  | b :: bs => max (b.1 + 1) (dep bs)
theorem dep_lt {r c : Nat} : ∀ {bs : List (Nat × Nat)}, (r, c) ∈ bs → r < dep bs
  | [], h => by simp at h
  | b :: bs, h => by
    rcases List.mem_cons.mp h with rfl | h
    · simp only [dep]; omega
    · have := dep_lt h
      simp only [dep]; omega
theorem dep_wit : ∀ {bs : List (Nat × Nat)}, 0 < dep bs → ∃ c, (dep bs - 1, c) ∈ bs
  | [], h => by simp [dep] at h
  | b :: bs, h => by
    by_cases q : dep bs ≤ b.1 + 1
    · exact ⟨b.2, by simp only [dep, Nat.max_eq_left q]; simp⟩
    · obtain ⟨c, hc⟩ := dep_wit (bs := bs) (by omega)
      exact ⟨c, by simp only [dep]; rw [Nat.max_eq_right (by omega)]; exact List.mem_cons_of_mem _ hc⟩
def rowsOf (bs : List (Nat × Nat)) : List Nat := (List.range (dep bs)).map fun a => bs.countP fun b => b.1 == a
theorem rowsOf_eq {bs : List (Nat × Nat)} {q : List Nat} (hq : ∀ x ∈ q, 1 ≤ x) (h : ∀ a, (bs.countP fun b => b.1 == a) = pt q a) : rowsOf bs = q := by
  have hd : dep bs = q.length := by
    apply Nat.le_antisymm
    · by_cases z : 0 < dep bs
      · obtain ⟨c, hc⟩ := dep_wit z
        have h1 := h (dep bs - 1)
        have h2 : 0 < bs.countP fun b => b.1 == dep bs - 1 := List.countP_pos_iff.mpr ⟨_, hc, by simp⟩
        have h3 : dep bs - 1 < q.length := by
          apply Classical.byContradiction
          intro w
          rw [pt_ge (by omega)] at h1; omega
        omega
      · omega
    · apply Classical.byContradiction
      intro w
      have hl : dep bs < q.length := by omega
      have h1 := h (dep bs)
      have h2 : 1 ≤ pt q (dep bs) := by rw [pt_lt hl]; exact hq _ (List.getElem_mem hl)
      have h3 : 0 < bs.countP fun b => b.1 == dep bs := by omega
      obtain ⟨⟨r, c⟩, hm, e⟩ := List.countP_pos_iff.mp h3
      have := dep_lt hm
      simp at e; omega
  apply List.ext_getElem
  · simp [rowsOf, hd]
  · intro i h1 h2
    simp only [rowsOf, List.getElem_map, List.getElem_range]
    rw [h i, pt_lt h2]
theorem rows_turned {p : List Nat} (h : Par p) : rowsOf ((boxes p).map fun b => (b.2, b.1)) = conj p := by
  refine rowsOf_eq (conj_pos h) fun a => ?_
  rw [List.countP_map, pt_conj h, ← cnt_col a p 0]
  rfl
/-! one box more, one box less -/
def addP (p : List Nat) (row : Nat) : List Nat := p.take row ++ [pt p row + 1] ++ p.drop (row + 1)
def remP (p : List Nat) (row : Nat) : List Nat := if pt p row = 1 then p.take row else p.take row ++ [pt p row - 1] ++ p.drop (row + 1)
def canAdd (p : List Nat) (row : Nat) : Bool := row == 0 || decide (pt p row < pt p (row - 1))
def canRem (p : List Nat) (row : Nat) : Bool := decide (pt p (row + 1) < pt p row)
theorem canAdd_le {p : List Nat} {row : Nat} (h : canAdd p row = true) : row ≤ p.length := by
  apply Classical.byContradiction
  intro w
  have : pt p (row - 1) = 0 := pt_ge (by omega)
  simp [canAdd, this] at h
  omega
theorem canRem_lt {p : List Nat} {row : Nat} (h : canRem p row = true) : row < p.length := by
  apply Classical.byContradiction
  intro w
  have : pt p row = 0 := pt_ge (by omega)
  simp [canRem, this] at h
theorem pt_mid {p : List Nat} {row : Nat} (hr : row ≤ p.length) (x a : Nat) : pt (p.take row ++ [x] ++ p.drop (row + 1)) a = if a = row then x else pt p a := by
  have hl : (p.take row).length = row := by rw [List.length_take]; omega
  by_cases e : a = row
  · subst e
    rw [if_pos rfl]
    simp [pt, List.getD_eq_getElem?_getD, List.getElem?_append, hl]
  · rw [if_neg e]
    simp only [pt, List.getD_eq_getElem?_getD]
    by_cases l : a < row
    · rw [List.getElem?_append_left (by simp; omega), List.getElem?_append_left (by omega), List.getElem?_take_of_lt l]
    · rw [List.getElem?_append_right (by simp; omega), List.getElem?_drop]
      congr 2
      simp; omega
theorem mem_of_pt {q : List Nat} (h : ∀ a, a < q.length → 1 ≤ pt q a) : ∀ x ∈ q, 1 ≤ x := by
  intro x hx
  obtain ⟨i, hi, rfl⟩ := List.mem_iff_getElem.mp hx
  have := h i hi
  rwa [pt_lt hi] at this
theorem rows_add {p : List Nat} (h : Par p) {row : Nat} (c : canAdd p row = true) : rowsOf (boxes p ++ [(row, pt p row)]) = addP p row := by
  have hr := canAdd_le c
  refine rowsOf_eq (mem_of_pt fun a ha => ?_) fun a => ?_
  · unfold addP at ha ⊢
    rw [pt_mid hr]
    split
    · omega
    · rw [Nat.succ_le_iff, pt_pos h]
      simp at ha; omega
  · unfold addP
    rw [pt_mid hr, List.countP_append, cnt_row, if_neg (Nat.not_lt_zero _), Nat.sub_zero]
    by_cases e : a = row
    · subst e; simp
    · have : ¬ row = a := fun z => e z.symm
      simp [e, this]
theorem cnt_erase {p : List Nat} (row L a : Nat) (hL : L < pt p row) : ((boxes p).filter fun b => !(b == (row, L))).countP (fun b => b.1 == a) = if a = row then pt p row - 1 else pt p a := by
  rw [List.countP_filter]
  have key : (boxes p).countP (fun b => b.1 == a) = (boxes p).countP (fun b => b.1 == a && !(b == (row, L))) + (boxes p).countP (fun b => b.1 == a && b == (row, L)) := by
    generalize boxes p = bs
    induction bs with
    | nil => rfl
    | cons b bs ih =>
      simp only [List.countP_cons, ih]
      cases h1 : (b.1 == a) <;> cases h2 : (b == (row, L)) <;> simp <;> omega
  have nd : ∀ (p : List Nat) (k : Nat), (boxesF k p).countP (fun b => b.1 == a && b == (row, L)) = if a = row ∧ k ≤ row ∧ L < pt p (row - k) then 1 else 0 := by
    intro p
    induction p with
    | nil => intro k; simp [boxesF, pt]
    | cons x p ih =>
      intro k
      rw [boxesF, List.countP_append, ih, List.countP_map]
      by_cases e : a = row
      · subst e
        by_cases ek : k = a
        · subst ek
          have : ((fun b : Nat × Nat => b.1 == k && b == (k, L)) ∘ fun c => (k, c)) = fun d => d == L := by
            funext d
            rw [Bool.eq_iff_iff]
            simp
          rw [this, cnt_range_eq]
          have : ¬ k + 1 ≤ k := by omega
          simp [this, pt]
        · have : ((fun b : Nat × Nat => b.1 == a && b == (a, L)) ∘ fun c => (k, c)) = fun _ => false := by funext d; simp [ek]
          rw [this]
          by_cases q : k ≤ a
          · have q2 : k + 1 ≤ a := by omega
            rw [show a - k = (a - (k + 1)) + 1 by omega, pt_consS]
            simp [q, q2]
          · have q2 : ¬ k + 1 ≤ a := by omega
            simp [q, q2]
      · have : ((fun b : Nat × Nat => b.1 == a && b == (row, L)) ∘ fun c => (k, c)) = fun _ => false := by
          funext d
          simp only [Function.comp]
          cases h : ((k == a) && ((k, d) == (row, L))) with
          | false => rfl
          | true =>
            simp at h
            exact absurd (h.1.symm.trans h.2.1) e
        rw [this]
        simp [e]
  rw [cnt_row, if_neg (Nat.not_lt_zero _), Nat.sub_zero, nd p 0, Nat.sub_zero] at key
  by_cases e : a = row
  · subst e
    rw [if_pos ⟨rfl, Nat.zero_le _, hL⟩] at key
    rw [if_pos rfl]; omega
  · rw [if_neg (fun z => e z.1)] at key
    rw [if_neg e]; omega
theorem rows_rem {p : List Nat} (h : Par p) {row : Nat} (c : canRem p row = true) : rowsOf ((boxes p).filter fun b => !(b == (row, pt p row - 1))) = remP p row := by
  have hr := canRem_lt c
  have hp : 0 < pt p row := (pt_pos h).mpr hr
  have hc : pt p (row + 1) < pt p row := of_decide_eq_true c
  refine rowsOf_eq (mem_of_pt fun a ha => ?_) fun a => ?_
  · unfold remP at ha ⊢
    by_cases e : pt p row = 1
    · rw [if_pos e] at ha ⊢
      rw [List.length_take] at ha
      have : pt (p.take row) a = pt p a := by
        simp only [pt, List.getD_eq_getElem?_getD]
        rw [List.getElem?_take_of_lt (by omega)]
      rw [this, Nat.succ_le_iff, pt_pos h]; omega
    · rw [if_neg e] at ha ⊢
      rw [pt_mid (by omega)]
      split
      · omega
      · rw [Nat.succ_le_iff, pt_pos h]
        simp at ha; omega
  · rw [cnt_erase row _ a (by omega)]
    unfold remP
    by_cases e : pt p row = 1
    · rw [if_pos e, e]
      have z : p.length ≤ row + 1 := by
        apply Classical.byContradiction
        intro w
        have := (pt_pos h (r := row + 1)).mpr (by omega)
        omega
      by_cases q : a < row
      · have : pt (p.take row) a = pt p a := by
          simp only [pt, List.getD_eq_getElem?_getD]
          rw [List.getElem?_take_of_lt q]
        rw [this, if_neg (by omega)]
      · have : pt (p.take row) a = 0 := pt_ge (by rw [List.length_take]; omega)
        rw [this]
        by_cases e2 : a = row
        · rw [if_pos e2]
        · rw [if_neg e2, pt_ge (by omega)]
    · rw [if_neg e, pt_mid (by omega)]
/-! shapes -/
def isShape (bs : List (Nat × Nat)) : Bool := bs.all fun b => (b.1 == 0 || bs.contains (b.1 - 1, b.2)) && (b.2 == 0 || bs.contains (b.1, b.2 - 1))
theorem isShape_iff {bs : List (Nat × Nat)} : isShape bs = true ↔ ∀ r c, (r, c) ∈ bs → (r = 0 ∨ (r - 1, c) ∈ bs) ∧ (c = 0 ∨ (r, c - 1) ∈ bs) := by
  simp only [isShape, List.all_eq_true, Bool.and_eq_true, Bool.or_eq_true, beq_iff_eq, List.contains_iff_mem]
  constructor
  · intro h r c m; exact h (r, c) m
  · rintro h ⟨r, c⟩ m; exact h r c m
theorem shape_add {p : List Nat} (h : Par p) (row : Nat) : isShape (boxes p ++ [(row, pt p row)]) = canAdd p row := by
  rw [Bool.eq_iff_iff, isShape_iff]
  simp only [canAdd, Bool.or_eq_true, beq_iff_eq, decide_eq_true_eq, List.mem_append, List.mem_singleton, Prod.mk.injEq, mem_boxes]
  constructor
  · intro q
    rcases (q row (pt p row) (.inr ⟨rfl, rfl⟩)).1 with z | z | z
    · exact .inl z
    · exact .inr z
    · have : row = 0 := by omega
      exact .inl this
  · rintro q r c (m | ⟨rfl, rfl⟩)
    · refine ⟨?_, ?_⟩
      · by_cases e : r = 0
        · exact .inl e
        · exact .inr (.inl (Nat.lt_of_lt_of_le m (pt_anti h (by omega))))
      · by_cases e : c = 0
        · exact .inl e
        · exact .inr (.inl (by omega))
    · refine ⟨?_, ?_⟩
      · rcases q with q | q
        · exact .inl q
        · exact .inr (.inl q)
      · by_cases e : pt p r = 0
        · exact .inl e
        · exact .inr (.inl (by omega))
theorem shape_rem {p : List Nat} (h : Par p) (row : Nat) (hp : 0 < pt p row) : isShape ((boxes p).filter fun b => !(b == (row, pt p row - 1))) = canRem p row := by
  rw [Bool.eq_iff_iff, isShape_iff]
  simp only [canRem, decide_eq_true_eq, List.mem_filter, mem_boxes, Bool.not_eq_true', beq_eq_false_iff_ne, ne_eq, Prod.mk.injEq]
  constructor
  · intro q
    apply Classical.byContradiction
    intro w
    rcases (q (row + 1) (pt p row - 1) ⟨by omega, by omega⟩).1 with z | z
    · omega
    · exact z.2 ⟨by omega, rfl⟩
  · rintro q r c ⟨m, n⟩
    refine ⟨?_, ?_⟩
    · by_cases e : r = 0
      · exact .inl e
      · refine .inr ⟨Nat.lt_of_lt_of_le m (pt_anti h (by omega)), ?_⟩
        rintro ⟨h1, h2⟩
        have : r = row + 1 := by omega
        subst this
        omega
    · by_cases e : c = 0
      · exact .inl e
      · refine .inr ⟨by omega, ?_⟩
        rintro ⟨h1, h2⟩
        subst h1; omega
theorem filter_more (f : Nat → Bool) (n k : Nat) (h : ∀ i, n ≤ i → f i = false) : (List.range (n + k)).filter f = (List.range n).filter f := by
  induction k with
  | zero => rfl
  | succ k ih =>
    rw [← Nat.add_assoc, List.range_succ, List.filter_append, ih]
    simp [h (n + k) (by omega)]
def addable (p : List Nat) : List Nat := (List.range (p.length + 1)).filter (canAdd p)
def removable (p : List Nat) : List Nat := (List.range p.length).filter (canRem p)
theorem more_eq (p : List Nat) : (List.range (p.length + 3)).filter (canAdd p) = addable p :=
  filter_more (canAdd p) (p.length + 1) 2 fun i hi => by
    cases q : canAdd p i with
    | false => rfl
    | true => have := canAdd_le q; omega
theorem less_eq (p : List Nat) : (List.range (p.length + 3)).filter (canRem p) = removable p :=
  filter_more (canRem p) p.length 3 fun i hi => by
    cases q : canRem p i with
    | false => rfl
    | true => have := canRem_lt q; omega
/-! contains -/
def contains (p q : List Nat) : Bool := decide (q.length ≤ p.length) && (List.range q.length).all fun r => decide (pt q r ≤ pt p r)
theorem contains_iff {p q : List Nat} (hq : Par q) : contains p q = decide (((boxes q).filter fun b => !((boxes p).contains b)).length = 0) := by
  rw [Bool.eq_iff_iff]
  simp only [contains, Bool.and_eq_true, decide_eq_true_eq, List.all_eq_true, List.mem_range, List.length_eq_zero_iff, List.filter_eq_nil_iff, Bool.not_eq_true', Bool.not_eq_false, List.contains_iff_mem]
  constructor
  · rintro ⟨h1, h2⟩ ⟨r, c⟩ m
    rw [mem_boxes] at m ⊢
    have hr : r < q.length := (pt_pos hq).mp (by omega)
    have := h2 r hr
    omega
  · intro h
    have key : ∀ r, pt q r ≤ pt p r := by
      intro r
      apply Classical.byContradiction
      intro w
      have := h (r, pt p r) (mem_boxes.mpr (by omega))
      rw [mem_boxes] at this
      omega
    refine ⟨?_, fun r _ => key r⟩
    apply Classical.byContradiction
    intro w
    have h1 := (pt_pos hq (r := p.length)).mpr (by omega)
    have h2 := key p.length
    rw [pt_ge (Nat.le_refl p.length)] at h2
    omega
abbrev nD (k : Nat) : D := .int (k : Int)
abbrev Tq (p : List Nat) : D := .tup (p.map nD)
abbrev bD (b : Nat × Nat) : D := .tup [.int (b.1 : Int), .int (b.2 : Int)]
abbrev Bx (bs : List (Nat × Nat)) : D := .lst (bs.map bD)
structure PS (p : List Nat) : Prop where
  par : Par p
  len : p.length ≤ 1000
  top : ∀ x ∈ p, x ≤ 1000
theorem PS.pt {p : List Nat} (h : PS p) (r : Nat) : pt p r ≤ 1000 := by
  by_cases q : r < p.length
  · rw [pt_lt q]; exact h.top _ (List.getElem_mem q)
  · rw [pt_ge (by omega)]; omega
theorem hlim : lim = 16777216 := rfl
theorem atI_nat (p : List Nat) (r : Nat) (h : r < p.length) : atI (p.map nD) (r : Int) = some (nD (pt p r)) := by
  rw [atI_on nD, List.getElem?_eq_getElem h, pt_lt h]; rfl
theorem part_eq (p : List Nat) (r : Nat) (μ : Store) : m_part [.v (Tq p), .v (.int r)] μ = .ok (.v (nD (pt p r))) μ := by
  simp only [m_part, b_part]
  by_cases h : r < p.length
  · have e := atI_nat p r h
    simp [bind_ok, bind_exc, st_ok, st_exc, seq_nx, seq_rt, seq_bk, seq_ct, seq_exc, turn_nx, turn_ct, turn_bk, turn_rt, turn_exc, mk_true, mk_false, runS_rt, runS_nx, runS_exc, forL_nil, get_off, get_off0, set_off, set_off0, take_len,  sSeq, sIf, sSkip, sRet, sDrop, sAsg, sFor, sGhost, tFreeze, fTest, fBin, fUn, fCall, fCons, fNil, fVar, fC, fAnd, fOr, fNot, fIf, fLst, fTup, fChain, fAndV, fOrV, gNot, allV, g1, g2, gc1, gc2, Sl.get, okV, gNm, gUnp, gUnpL, gsNil, gsCons,  fSeq, fRng1, fRng2, fEnum, fComp, fYes, CT.put, setAll, wipeE, fMeth, isLst, lstAt, appendG, extendG, popG, popAtG, reverseG, countG, fNo, fPart, fSl, slF, revF, addF, subF, mulF, fdivF, modF, powF, ordF, negF, isNonF, isF, absF, max2F, min2F, int1F, lenF, listF, tupleF, sumF, maxF, minF, ixF,  gSubF, setL, sPar, sAug, runC, lift, pureOf, getAll, allVB, D.nol, D.nolL, startE, isiF, seqOf, fRgA, fRgB, rgL, rgT, fTru, truB, gUnpA, fRng3, fZip, zipF, fRev, imulF, ifdivF, fMeth2, isTup, countTG, seqA, seqInts, sumA, maxA, minA, fLenSet, tyName, clsL, clsNm, isiB, eqF_int, neF_int, eqF_ints, neF_ints, eqF_intsT, neF_intsT, h, e]
  · have e := pt_ge (p := p) (r := r) (by omega)
    simp [bind_ok, bind_exc, st_ok, st_exc, seq_nx, seq_rt, seq_bk, seq_ct, seq_exc, turn_nx, turn_ct, turn_bk, turn_rt, turn_exc, mk_true, mk_false, runS_rt, runS_nx, runS_exc, forL_nil, get_off, get_off0, set_off, set_off0, take_len,  sSeq, sIf, sSkip, sRet, sDrop, sAsg, sFor, sGhost, tFreeze, fTest, fBin, fUn, fCall, fCons, fNil, fVar, fC, fAnd, fOr, fNot, fIf, fLst, fTup, fChain, fAndV, fOrV, gNot, allV, g1, g2, gc1, gc2, Sl.get, okV, gNm, gUnp, gUnpL, gsNil, gsCons,  fSeq, fRng1, fRng2, fEnum, fComp, fYes, CT.put, setAll, wipeE, fMeth, isLst, lstAt, appendG, extendG, popG, popAtG, reverseG, countG, fNo, fPart, fSl, slF, revF, addF, subF, mulF, fdivF, modF, powF, ordF, negF, isNonF, isF, absF, max2F, min2F, int1F, lenF, listF, tupleF, sumF, maxF, minF, ixF,  gSubF, setL, sPar, sAug, runC, lift, pureOf, getAll, allVB, D.nol, D.nolL, startE, isiF, seqOf, fRgA, fRgB, rgL, rgT, fTru, truB, gUnpA, fRng3, fZip, zipF, fRev, imulF, ifdivF, fMeth2, isTup, countTG, seqA, seqInts, sumA, maxA, minA, fLenSet, tyName, clsL, clsNm, isiB, eqF_int, neF_int, eqF_ints, neF_ints, eqF_intsT, neF_intsT, h, e]
theorem conj_eq {p : List Nat} (h : PS p) (μ : Store) : m_conjugate [.v (Tq p)] μ = .ok (.v (Tq (conj p))) μ := by
  have h0 := h.pt 0
  have hl := h.len
  have e0 : m_part [.v (Tq p), .v (.int 0)] [] = _ := part_eq p 0 []
  have inner : ∀ c : Nat, cLoop (.nm 2) (fTest (fBin (fVar 2) (fVar 1) (g2 gtF))) (fVar 2) [some (.v (Tq p)), some (.v (.int c)), none] (p.map nD) [] [] = .ok ((p.filter fun x => decide (c < x)).map nD) [] := fun c =>
    cloop_on (fun x => decide (c < x)) nD p (by rw [hlim]; omega) fun x m => ⟨_, rfl, by simp [bind_ok, bind_exc, st_ok, st_exc, seq_nx, seq_rt, seq_bk, seq_ct, seq_exc, turn_nx, turn_ct, turn_bk, turn_rt, turn_exc, mk_true, mk_false, runS_rt, runS_nx, runS_exc, forL_nil, get_off, get_off0, set_off, set_off0, take_len,  sSeq, sIf, sSkip, sRet, sDrop, sAsg, sFor, sGhost, tFreeze, fTest, fBin, fUn, fCall, fCons, fNil, fVar, fC, fAnd, fOr, fNot, fIf, fLst, fTup, fChain, fAndV, fOrV, gNot, allV, g1, g2, gc1, gc2, Sl.get, okV, gNm, gUnp, gUnpL, gsNil, gsCons,  fSeq, fRng1, fRng2, fEnum, fComp, fYes, CT.put, setAll, wipeE, fMeth, isLst, lstAt, appendG, extendG, popG, popAtG, reverseG, countG, fNo, fPart, fSl, slF, revF, addF, subF, mulF, fdivF, modF, powF, ordF, negF, isNonF, isF, absF, max2F, min2F, int1F, lenF, listF, tupleF, sumF, maxF, minF, ixF,  gSubF, setL, sPar, sAug, runC, lift, pureOf, getAll, allVB, D.nol, D.nolL, startE, isiF, seqOf, fRgA, fRgB, rgL, rgT, fTru, truB, gUnpA, fRng3, fZip, zipF, fRev, imulF, ifdivF, fMeth2, isTup, countTG, seqA, seqInts, sumA, maxA, minA, fLenSet, tyName, clsL, clsNm, isiB, eqF_int, neF_int, eqF_ints, neF_ints, eqF_intsT, neF_intsT], fun _ => by simp [bind_ok, bind_exc, st_ok, st_exc, seq_nx, seq_rt, seq_bk, seq_ct, seq_exc, turn_nx, turn_ct, turn_bk, turn_rt, turn_exc, mk_true, mk_false, runS_rt, runS_nx, runS_exc, forL_nil, get_off, get_off0, set_off, set_off0, take_len,  sSeq, sIf, sSkip, sRet, sDrop, sAsg, sFor, sGhost, tFreeze, fTest, fBin, fUn, fCall, fCons, fNil, fVar, fC, fAnd, fOr, fNot, fIf, fLst, fTup, fChain, fAndV, fOrV, gNot, allV, g1, g2, gc1, gc2, Sl.get, okV, gNm, gUnp, gUnpL, gsNil, gsCons,  fSeq, fRng1, fRng2, fEnum, fComp, fYes, CT.put, setAll, wipeE, fMeth, isLst, lstAt, appendG, extendG, popG, popAtG, reverseG, countG, fNo, fPart, fSl, slF, revF, addF, subF, mulF, fdivF, modF, powF, ordF, negF, isNonF, isF, absF, max2F, min2F, int1F, lenF, listF, tupleF, sumF, maxF, minF, ixF,  gSubF, setL, sPar, sAug, runC, lift, pureOf, getAll, allVB, D.nol, D.nolL, startE, isiF, seqOf, fRgA, fRgB, rgL, rgT, fTru, truB, gUnpA, fRng3, fZip, zipF, fRev, imulF, ifdivF, fMeth2, isTup, countTG, seqA, seqInts, sumA, maxA, minA, fLenSet, tyName, clsL, clsNm, isiB, eqF_int, neF_int, eqF_ints, neF_ints, eqF_intsT, neF_intsT]⟩
  have outer := cloop_all (enc := fun i : Nat => D.int i) (t := .nm 1) (fe := fCall (gc1 lenF) (fCons (fComp false [2] (fSeq (fVar 0)) (CT.nm 2) (fTest (fBin (fVar 2) (fVar 1) (g2 gtF))) (fVar 2)) (fNil))) (ρ := [some (.v (Tq p)), none, none]) (μ := [])
    (fun c => nD (p.countP fun x => decide (c < x))) (List.range (pt p 0)) (by rw [List.length_range, hlim]; omega) fun c m => ⟨_, rfl, by
      have i := inner c
      simp [bind_ok, bind_exc, st_ok, st_exc, seq_nx, seq_rt, seq_bk, seq_ct, seq_exc, turn_nx, turn_ct, turn_bk, turn_rt, turn_exc, mk_true, mk_false, runS_rt, runS_nx, runS_exc, forL_nil, get_off, get_off0, set_off, set_off0, take_len,  sSeq, sIf, sSkip, sRet, sDrop, sAsg, sFor, sGhost, tFreeze, fTest, fBin, fUn, fCall, fCons, fNil, fVar, fC, fAnd, fOr, fNot, fIf, fLst, fTup, fChain, fAndV, fOrV, gNot, allV, g1, g2, gc1, gc2, Sl.get, okV, gNm, gUnp, gUnpL, gsNil, gsCons,  fSeq, fRng1, fRng2, fEnum, fComp, fYes, CT.put, setAll, wipeE, fMeth, isLst, lstAt, appendG, extendG, popG, popAtG, reverseG, countG, fNo, fPart, fSl, slF, revF, addF, subF, mulF, fdivF, modF, powF, ordF, negF, isNonF, isF, absF, max2F, min2F, int1F, lenF, listF, tupleF, sumF, maxF, minF, ixF,  gSubF, setL, sPar, sAug, runC, lift, pureOf, getAll, allVB, D.nol, D.nolL, startE, isiF, seqOf, fRgA, fRgB, rgL, rgT, fTru, truB, gUnpA, fRng3, fZip, zipF, fRev, imulF, ifdivF, fMeth2, isTup, countTG, seqA, seqInts, sumA, maxA, minA, fLenSet, tyName, clsL, clsNm, isiB, eqF_int, neF_int, eqF_ints, neF_ints, eqF_intsT, neF_intsT, i, List.countP_eq_length_filter]⟩
  have r0 := rangeD0 (pt p 0)
  have hs : pt p 0 < 2305843009213693952 := by omega
  simp only [m_conjugate, b_conjugate]
  simp [bind_ok, bind_exc, st_ok, st_exc, seq_nx, seq_rt, seq_bk, seq_ct, seq_exc, turn_nx, turn_ct, turn_bk, turn_rt, turn_exc, mk_true, mk_false, runS_rt, runS_nx, runS_exc, forL_nil, get_off, get_off0, set_off, set_off0, take_len,  sSeq, sIf, sSkip, sRet, sDrop, sAsg, sFor, sGhost, tFreeze, fTest, fBin, fUn, fCall, fCons, fNil, fVar, fC, fAnd, fOr, fNot, fIf, fLst, fTup, fChain, fAndV, fOrV, gNot, allV, g1, g2, gc1, gc2, Sl.get, okV, gNm, gUnp, gUnpL, gsNil, gsCons,  fSeq, fRng1, fRng2, fEnum, fComp, fYes, CT.put, setAll, wipeE, fMeth, isLst, lstAt, appendG, extendG, popG, popAtG, reverseG, countG, fNo, fPart, fSl, slF, revF, addF, subF, mulF, fdivF, modF, powF, ordF, negF, isNonF, isF, absF, max2F, min2F, int1F, lenF, listF, tupleF, sumF, maxF, minF, ixF,  gSubF, setL, sPar, sAug, runC, lift, pureOf, getAll, allVB, D.nol, D.nolL, startE, isiF, seqOf, fRgA, fRgB, rgL, rgT, fTru, truB, gUnpA, fRng3, fZip, zipF, fRev, imulF, ifdivF, fMeth2, isTup, countTG, seqA, seqInts, sumA, maxA, minA, fLenSet, tyName, clsL, clsNm, isiB, eqF_int, neF_int, eqF_ints, neF_ints, eqF_intsT, neF_intsT, e0, hs, r0, outer, conj]
theorem size_eq (p : List Nat) (μ : Store) : m_size [.v (Tq p)] μ = .ok (.v (.int (p.sum : Nat))) μ := by
  have i := intsOf_on (fun x : Nat => (x : Int)) p
  have e : (p.map fun x : Nat => (x : Int)).sum = (p.sum : Nat) := by
    induction p with
    | nil => rfl
    | cons x p ih => simp [List.sum_cons] at ih ⊢; rw [ih (intsOf_on _ p)]
  simp only [m_size, b_size]
  simp [bind_ok, bind_exc, st_ok, st_exc, seq_nx, seq_rt, seq_bk, seq_ct, seq_exc, turn_nx, turn_ct, turn_bk, turn_rt, turn_exc, mk_true, mk_false, runS_rt, runS_nx, runS_exc, forL_nil, get_off, get_off0, set_off, set_off0, take_len,  sSeq, sIf, sSkip, sRet, sDrop, sAsg, sFor, sGhost, tFreeze, fTest, fBin, fUn, fCall, fCons, fNil, fVar, fC, fAnd, fOr, fNot, fIf, fLst, fTup, fChain, fAndV, fOrV, gNot, allV, g1, g2, gc1, gc2, Sl.get, okV, gNm, gUnp, gUnpL, gsNil, gsCons,  fSeq, fRng1, fRng2, fEnum, fComp, fYes, CT.put, setAll, wipeE, fMeth, isLst, lstAt, appendG, extendG, popG, popAtG, reverseG, countG, fNo, fPart, fSl, slF, revF, addF, subF, mulF, fdivF, modF, powF, ordF, negF, isNonF, isF, absF, max2F, min2F, int1F, lenF, listF, tupleF, sumF, maxF, minF, ixF,  gSubF, setL, sPar, sAug, runC, lift, pureOf, getAll, allVB, D.nol, D.nolL, startE, isiF, seqOf, fRgA, fRgB, rgL, rgT, fTru, truB, gUnpA, fRng3, fZip, zipF, fRev, imulF, ifdivF, fMeth2, isTup, countTG, seqA, seqInts, sumA, maxA, minA, fLenSet, tyName, clsL, clsNm, isiB, eqF_int, neF_int, eqF_ints, neF_ints, eqF_intsT, neF_intsT, i, e]
theorem len_conj {p : List Nat} : (conj p).length = pt p 0 := by simp [conj]
theorem hooks_eq {p : List Nat} (h : PS p) (μ : Store) : m_hooks [.v (Tq p)] μ = .ok (.v (.lst ((List.range p.length).map fun r : Nat => D.lst ((List.range (pt p r)).map fun c : Nat => D.int ((pt p r : Int) - c + (pt (conj p) c : Int) - r - 1))))) μ := by
  have hl := h.len
  have e0 := conj_eq h []
  have inner : ∀ r : Nat, r < p.length → cLoop (.nm 3) fYes (fBin (fBin (fBin (fBin (fBin (fVar 0) (fVar 2) (g2 ixF)) (fVar 3) (g2 subF)) (fBin (fVar 1) (fVar 3) (g2 ixF)) (g2 (addF false))) (fVar 2) (g2 subF)) (fC (.int 1)) (g2 subF)) [some (.v (Tq p)), some (.v (Tq (conj p))), some (.v (.int r)), none] ((List.range (pt p r)).map fun i : Nat => D.int i) [] [] = .ok ((List.range (pt p r)).map fun c : Nat => D.int ((pt p r : Int) - c + (pt (conj p) c : Int) - r - 1)) [] := fun r hr =>
    cloop_all _ _ (by have := h.pt r; rw [List.length_range, hlim]; omega) fun c m => ⟨_, rfl, by
      have m := List.mem_range.mp m
      have e1 := atI_nat p r hr
      have e2 := atI_nat (conj p) c (conj_getD h.par m)
      simp [bind_ok, bind_exc, st_ok, st_exc, seq_nx, seq_rt, seq_bk, seq_ct, seq_exc, turn_nx, turn_ct, turn_bk, turn_rt, turn_exc, mk_true, mk_false, runS_rt, runS_nx, runS_exc, forL_nil, get_off, get_off0, set_off, set_off0, take_len,  sSeq, sIf, sSkip, sRet, sDrop, sAsg, sFor, sGhost, tFreeze, fTest, fBin, fUn, fCall, fCons, fNil, fVar, fC, fAnd, fOr, fNot, fIf, fLst, fTup, fChain, fAndV, fOrV, gNot, allV, g1, g2, gc1, gc2, Sl.get, okV, gNm, gUnp, gUnpL, gsNil, gsCons,  fSeq, fRng1, fRng2, fEnum, fComp, fYes, CT.put, setAll, wipeE, fMeth, isLst, lstAt, appendG, extendG, popG, popAtG, reverseG, countG, fNo, fPart, fSl, slF, revF, addF, subF, mulF, fdivF, modF, powF, ordF, negF, isNonF, isF, absF, max2F, min2F, int1F, lenF, listF, tupleF, sumF, maxF, minF, ixF,  gSubF, setL, sPar, sAug, runC, lift, pureOf, getAll, allVB, D.nol, D.nolL, startE, isiF, seqOf, fRgA, fRgB, rgL, rgT, fTru, truB, gUnpA, fRng3, fZip, zipF, fRev, imulF, ifdivF, fMeth2, isTup, countTG, seqA, seqInts, sumA, maxA, minA, fLenSet, tyName, clsL, clsNm, isiB, eqF_int, neF_int, eqF_ints, neF_ints, eqF_intsT, neF_intsT, e1, e2]⟩
  have outer := cloop_all (enc := fun i : Nat => D.int i) (t := .nm 2) (fe := fComp false [3] (fRng1 (fCons (fBin (fVar 0) (fVar 2) (g2 ixF)) (fNil))) (CT.nm 3) (fYes) (fBin (fBin (fBin (fBin (fBin (fVar 0) (fVar 2) (g2 ixF)) (fVar 3) (g2 subF)) (fBin (fVar 1) (fVar 3) (g2 ixF)) (g2 (addF false))) (fVar 2) (g2 subF)) (fC (.int 1)) (g2 subF))) (ρ := [some (.v (Tq p)), some (.v (Tq (conj p))), none, none]) (μ := [])
    (fun r : Nat => D.lst ((List.range (pt p r)).map fun c : Nat => D.int ((pt p r : Int) - c + (pt (conj p) c : Int) - r - 1))) (List.range p.length) (by rw [List.length_range, hlim]; omega) fun r m => ⟨_, rfl, by
      have m := List.mem_range.mp m
      have i := inner r m
      have e1 := atI_nat p r m
      have r0 := rangeD0 (pt p r)
      have hs : pt p r < 2305843009213693952 := by have := h.pt r; omega
      simp [bind_ok, bind_exc, st_ok, st_exc, seq_nx, seq_rt, seq_bk, seq_ct, seq_exc, turn_nx, turn_ct, turn_bk, turn_rt, turn_exc, mk_true, mk_false, runS_rt, runS_nx, runS_exc, forL_nil, get_off, get_off0, set_off, set_off0, take_len,  sSeq, sIf, sSkip, sRet, sDrop, sAsg, sFor, sGhost, tFreeze, fTest, fBin, fUn, fCall, fCons, fNil, fVar, fC, fAnd, fOr, fNot, fIf, fLst, fTup, fChain, fAndV, fOrV, gNot, allV, g1, g2, gc1, gc2, Sl.get, okV, gNm, gUnp, gUnpL, gsNil, gsCons,  fSeq, fRng1, fRng2, fEnum, fComp, fYes, CT.put, setAll, wipeE, fMeth, isLst, lstAt, appendG, extendG, popG, popAtG, reverseG, countG, fNo, fPart, fSl, slF, revF, addF, subF, mulF, fdivF, modF, powF, ordF, negF, isNonF, isF, absF, max2F, min2F, int1F, lenF, listF, tupleF, sumF, maxF, minF, ixF,  gSubF, setL, sPar, sAug, runC, lift, pureOf, getAll, allVB, D.nol, D.nolL, startE, isiF, seqOf, fRgA, fRgB, rgL, rgT, fTru, truB, gUnpA, fRng3, fZip, zipF, fRev, imulF, ifdivF, fMeth2, isTup, countTG, seqA, seqInts, sumA, maxA, minA, fLenSet, tyName, clsL, clsNm, isiB, eqF_int, neF_int, eqF_ints, neF_ints, eqF_intsT, neF_intsT, e1, r0, hs, i]⟩
  have r0 := rangeD0 p.length
  have hs : p.length < 2305843009213693952 := by omega
  simp only [m_hooks, b_hooks]
  simp [bind_ok, bind_exc, st_ok, st_exc, seq_nx, seq_rt, seq_bk, seq_ct, seq_exc, turn_nx, turn_ct, turn_bk, turn_rt, turn_exc, mk_true, mk_false, runS_rt, runS_nx, runS_exc, forL_nil, get_off, get_off0, set_off, set_off0, take_len,  sSeq, sIf, sSkip, sRet, sDrop, sAsg, sFor, sGhost, tFreeze, fTest, fBin, fUn, fCall, fCons, fNil, fVar, fC, fAnd, fOr, fNot, fIf, fLst, fTup, fChain, fAndV, fOrV, gNot, allV, g1, g2, gc1, gc2, Sl.get, okV, gNm, gUnp, gUnpL, gsNil, gsCons,  fSeq, fRng1, fRng2, fEnum, fComp, fYes, CT.put, setAll, wipeE, fMeth, isLst, lstAt, appendG, extendG, popG, popAtG, reverseG, countG, fNo, fPart, fSl, slF, revF, addF, subF, mulF, fdivF, modF, powF, ordF, negF, isNonF, isF, absF, max2F, min2F, int1F, lenF, listF, tupleF, sumF, maxF, minF, ixF,  gSubF, setL, sPar, sAug, runC, lift, pureOf, getAll, allVB, D.nol, D.nolL, startE, isiF, seqOf, fRgA, fRgB, rgL, rgT, fTru, truB, gUnpA, fRng3, fZip, zipF, fRev, imulF, ifdivF, fMeth2, isTup, countTG, seqA, seqInts, sumA, maxA, minA, fLenSet, tyName, clsL, clsNm, isiB, eqF_int, neF_int, eqF_ints, neF_ints, eqF_intsT, neF_intsT, e0, hs, r0, outer]
theorem contents_eq {p : List Nat} (h : PS p) (μ : Store) : m_contents [.v (Tq p)] μ = .ok (.v (.lst ((List.range p.length).map fun r : Nat => D.lst ((List.range (pt p r)).map fun c : Nat => D.int ((c : Int) - r))))) μ := by
  have hl := h.len
  have inner : ∀ r : Nat, cLoop (.nm 2) fYes (fBin (fVar 2) (fVar 1) (g2 subF)) [some (.v (Tq p)), some (.v (.int r)), none] ((List.range (pt p r)).map fun i : Nat => D.int i) [] [] = .ok ((List.range (pt p r)).map fun c : Nat => D.int ((c : Int) - r)) [] := fun r =>
    cloop_all _ _ (by have := h.pt r; rw [List.length_range, hlim]; omega) fun c m => ⟨_, rfl, by simp [bind_ok, bind_exc, st_ok, st_exc, seq_nx, seq_rt, seq_bk, seq_ct, seq_exc, turn_nx, turn_ct, turn_bk, turn_rt, turn_exc, mk_true, mk_false, runS_rt, runS_nx, runS_exc, forL_nil, get_off, get_off0, set_off, set_off0, take_len,  sSeq, sIf, sSkip, sRet, sDrop, sAsg, sFor, sGhost, tFreeze, fTest, fBin, fUn, fCall, fCons, fNil, fVar, fC, fAnd, fOr, fNot, fIf, fLst, fTup, fChain, fAndV, fOrV, gNot, allV, g1, g2, gc1, gc2, Sl.get, okV, gNm, gUnp, gUnpL, gsNil, gsCons,  fSeq, fRng1, fRng2, fEnum, fComp, fYes, CT.put, setAll, wipeE, fMeth, isLst, lstAt, appendG, extendG, popG, popAtG, reverseG, countG, fNo, fPart, fSl, slF, revF, addF, subF, mulF, fdivF, modF, powF, ordF, negF, isNonF, isF, absF, max2F, min2F, int1F, lenF, listF, tupleF, sumF, maxF, minF, ixF,  gSubF, setL, sPar, sAug, runC, lift, pureOf, getAll, allVB, D.nol, D.nolL, startE, isiF, seqOf, fRgA, fRgB, rgL, rgT, fTru, truB, gUnpA, fRng3, fZip, zipF, fRev, imulF, ifdivF, fMeth2, isTup, countTG, seqA, seqInts, sumA, maxA, minA, fLenSet, tyName, clsL, clsNm, isiB, eqF_int, neF_int, eqF_ints, neF_ints, eqF_intsT, neF_intsT]⟩
  have outer := cloop_all (enc := fun i : Nat => D.int i) (t := .nm 1) (fe := fComp false [2] (fRng1 (fCons (fBin (fVar 0) (fVar 1) (g2 ixF)) (fNil))) (CT.nm 2) (fYes) (fBin (fVar 2) (fVar 1) (g2 subF))) (ρ := [some (.v (Tq p)), none, none]) (μ := [])
    (fun r : Nat => D.lst ((List.range (pt p r)).map fun c : Nat => D.int ((c : Int) - r))) (List.range p.length) (by rw [List.length_range, hlim]; omega) fun r m => ⟨_, rfl, by
      have m := List.mem_range.mp m
      have i := inner r
      have e1 := atI_nat p r m
      have r0 := rangeD0 (pt p r)
      have hs : pt p r < 2305843009213693952 := by have := h.pt r; omega
      simp [bind_ok, bind_exc, st_ok, st_exc, seq_nx, seq_rt, seq_bk, seq_ct, seq_exc, turn_nx, turn_ct, turn_bk, turn_rt, turn_exc, mk_true, mk_false, runS_rt, runS_nx, runS_exc, forL_nil, get_off, get_off0, set_off, set_off0, take_len,  sSeq, sIf, sSkip, sRet, sDrop, sAsg, sFor, sGhost, tFreeze, fTest, fBin, fUn, fCall, fCons, fNil, fVar, fC, fAnd, fOr, fNot, fIf, fLst, fTup, fChain, fAndV, fOrV, gNot, allV, g1, g2, gc1, gc2, Sl.get, okV, gNm, gUnp, gUnpL, gsNil, gsCons,  fSeq, fRng1, fRng2, fEnum, fComp, fYes, CT.put, setAll, wipeE, fMeth, isLst, lstAt, appendG, extendG, popG, popAtG, reverseG, countG, fNo, fPart, fSl, slF, revF, addF, subF, mulF, fdivF, modF, powF, ordF, negF, isNonF, isF, absF, max2F, min2F, int1F, lenF, listF, tupleF, sumF, maxF, minF, ixF,  gSubF, setL, sPar, sAug, runC, lift, pureOf, getAll, allVB, D.nol, D.nolL, startE, isiF, seqOf, fRgA, fRgB, rgL, rgT, fTru, truB, gUnpA, fRng3, fZip, zipF, fRev, imulF, ifdivF, fMeth2, isTup, countTG, seqA, seqInts, sumA, maxA, minA, fLenSet, tyName, clsL, clsNm, isiB, eqF_int, neF_int, eqF_ints, neF_ints, eqF_intsT, neF_intsT, e1, r0, hs, i]⟩
  have r0 := rangeD0 p.length
  have hs : p.length < 2305843009213693952 := by omega
  simp only [m_contents, b_contents]
  simp [bind_ok, bind_exc, st_ok, st_exc, seq_nx, seq_rt, seq_bk, seq_ct, seq_exc, turn_nx, turn_ct, turn_bk, turn_rt, turn_exc, mk_true, mk_false, runS_rt, runS_nx, runS_exc, forL_nil, get_off, get_off0, set_off, set_off0, take_len,  sSeq, sIf, sSkip, sRet, sDrop, sAsg, sFor, sGhost, tFreeze, fTest, fBin, fUn, fCall, fCons, fNil, fVar, fC, fAnd, fOr, fNot, fIf, fLst, fTup, fChain, fAndV, fOrV, gNot, allV, g1, g2, gc1, gc2, Sl.get, okV, gNm, gUnp, gUnpL, gsNil, gsCons,  fSeq, fRng1, fRng2, fEnum, fComp, fYes, CT.put, setAll, wipeE, fMeth, isLst, lstAt, appendG, extendG, popG, popAtG, reverseG, countG, fNo, fPart, fSl, slF, revF, addF, subF, mulF, fdivF, modF, powF, ordF, negF, isNonF, isF, absF, max2F, min2F, int1F, lenF, listF, tupleF, sumF, maxF, minF, ixF,  gSubF, setL, sPar, sAug, runC, lift, pureOf, getAll, allVB, D.nol, D.nolL, startE, isiF, seqOf, fRgA, fRgB, rgL, rgT, fTru, truB, gUnpA, fRng3, fZip, zipF, fRev, imulF, ifdivF, fMeth2, isTup, countTG, seqA, seqInts, sumA, maxA, minA, fLenSet, tyName, clsL, clsNm, isiB, eqF_int, neF_int, eqF_ints, neF_ints, eqF_intsT, neF_intsT, hs, r0, outer]
/-! addable, removable -/
theorem addable_eq {p : List Nat} (h : PS p) (μ : Store) : m_addable [.v (Tq p)] μ = .ok (.v (.lst ((addable p).map nD))) μ := by
  have hl := h.len
  have outer := cloop_on (enc := fun i : Nat => D.int i) (t := .nm 1) (ft := fOr (fTest (fBin (fVar 1) (fC (.int 0)) (g2 eqF))) (fTest (fBin (fBin (fVar 0) (fBin (fVar 1) (fC (.int 1)) (g2 subF)) (g2 ixF)) (fCall (m_part) (fCons (fVar 0) (fCons (fVar 1) (fNil)))) (g2 gtF)))) (fe := fVar 1) (ρ := [some (.v (Tq p)), none]) (μ := [])
    (canAdd p) nD (List.range (p.length + 1)) (by rw [List.length_range, hlim]; omega) fun r m => ⟨_, rfl, by
      have m := List.mem_range.mp m
      have pe := part_eq p r []
      cases r with
      | zero => simp [bind_ok, bind_exc, st_ok, st_exc, seq_nx, seq_rt, seq_bk, seq_ct, seq_exc, turn_nx, turn_ct, turn_bk, turn_rt, turn_exc, mk_true, mk_false, runS_rt, runS_nx, runS_exc, forL_nil, get_off, get_off0, set_off, set_off0, take_len,  sSeq, sIf, sSkip, sRet, sDrop, sAsg, sFor, sGhost, tFreeze, fTest, fBin, fUn, fCall, fCons, fNil, fVar, fC, fAnd, fOr, fNot, fIf, fLst, fTup, fChain, fAndV, fOrV, gNot, allV, g1, g2, gc1, gc2, Sl.get, okV, gNm, gUnp, gUnpL, gsNil, gsCons,  fSeq, fRng1, fRng2, fEnum, fComp, fYes, CT.put, setAll, wipeE, fMeth, isLst, lstAt, appendG, extendG, popG, popAtG, reverseG, countG, fNo, fPart, fSl, slF, revF, addF, subF, mulF, fdivF, modF, powF, ordF, negF, isNonF, isF, absF, max2F, min2F, int1F, lenF, listF, tupleF, sumF, maxF, minF, ixF,  gSubF, setL, sPar, sAug, runC, lift, pureOf, getAll, allVB, D.nol, D.nolL, startE, isiF, seqOf, fRgA, fRgB, rgL, rgT, fTru, truB, gUnpA, fRng3, fZip, zipF, fRev, imulF, ifdivF, fMeth2, isTup, countTG, seqA, seqInts, sumA, maxA, minA, fLenSet, tyName, clsL, clsNm, isiB, eqF_int, neF_int, eqF_ints, neF_ints, eqF_intsT, neF_intsT, canAdd]
      | succ r =>
        have e1 := atI_nat p r (by omega)
        have nz : ¬ ((r : Int) + 1 = 0) := by omega
        have e3 : ((r + 1 : Nat) : Int) = (r : Int) + 1 := by omega
        rw [e3] at pe
        simp [bind_ok, bind_exc, st_ok, st_exc, seq_nx, seq_rt, seq_bk, seq_ct, seq_exc, turn_nx, turn_ct, turn_bk, turn_rt, turn_exc, mk_true, mk_false, runS_rt, runS_nx, runS_exc, forL_nil, get_off, get_off0, set_off, set_off0, take_len,  sSeq, sIf, sSkip, sRet, sDrop, sAsg, sFor, sGhost, tFreeze, fTest, fBin, fUn, fCall, fCons, fNil, fVar, fC, fAnd, fOr, fNot, fIf, fLst, fTup, fChain, fAndV, fOrV, gNot, allV, g1, g2, gc1, gc2, Sl.get, okV, gNm, gUnp, gUnpL, gsNil, gsCons,  fSeq, fRng1, fRng2, fEnum, fComp, fYes, CT.put, setAll, wipeE, fMeth, isLst, lstAt, appendG, extendG, popG, popAtG, reverseG, countG, fNo, fPart, fSl, slF, revF, addF, subF, mulF, fdivF, modF, powF, ordF, negF, isNonF, isF, absF, max2F, min2F, int1F, lenF, listF, tupleF, sumF, maxF, minF, ixF,  gSubF, setL, sPar, sAug, runC, lift, pureOf, getAll, allVB, D.nol, D.nolL, startE, isiF, seqOf, fRgA, fRgB, rgL, rgT, fTru, truB, gUnpA, fRng3, fZip, zipF, fRev, imulF, ifdivF, fMeth2, isTup, countTG, seqA, seqInts, sumA, maxA, minA, fLenSet, tyName, clsL, clsNm, isiB, eqF_int, neF_int, eqF_ints, neF_ints, eqF_intsT, neF_intsT, canAdd, e1, pe, nz], fun _ => by simp [bind_ok, bind_exc, st_ok, st_exc, seq_nx, seq_rt, seq_bk, seq_ct, seq_exc, turn_nx, turn_ct, turn_bk, turn_rt, turn_exc, mk_true, mk_false, runS_rt, runS_nx, runS_exc, forL_nil, get_off, get_off0, set_off, set_off0, take_len,  sSeq, sIf, sSkip, sRet, sDrop, sAsg, sFor, sGhost, tFreeze, fTest, fBin, fUn, fCall, fCons, fNil, fVar, fC, fAnd, fOr, fNot, fIf, fLst, fTup, fChain, fAndV, fOrV, gNot, allV, g1, g2, gc1, gc2, Sl.get, okV, gNm, gUnp, gUnpL, gsNil, gsCons,  fSeq, fRng1, fRng2, fEnum, fComp, fYes, CT.put, setAll, wipeE, fMeth, isLst, lstAt, appendG, extendG, popG, popAtG, reverseG, countG, fNo, fPart, fSl, slF, revF, addF, subF, mulF, fdivF, modF, powF, ordF, negF, isNonF, isF, absF, max2F, min2F, int1F, lenF, listF, tupleF, sumF, maxF, minF, ixF,  gSubF, setL, sPar, sAug, runC, lift, pureOf, getAll, allVB, D.nol, D.nolL, startE, isiF, seqOf, fRgA, fRgB, rgL, rgT, fTru, truB, gUnpA, fRng3, fZip, zipF, fRev, imulF, ifdivF, fMeth2, isTup, countTG, seqA, seqInts, sumA, maxA, minA, fLenSet, tyName, clsL, clsNm, isiB, eqF_int, neF_int, eqF_ints, neF_ints, eqF_intsT, neF_intsT]⟩
  have r0 := rangeD0 (p.length + 1)
  have hs : p.length + 1 < 2305843009213693952 := by omega
  have hs2 : ((p.length : Int) + 1).natAbs < 2305843009213693952 := by omega
  have hs3 : ((p.length : Int) + 1).toNat = p.length + 1 := by omega
  simp only [m_addable, b_addable]
  simp [bind_ok, bind_exc, st_ok, st_exc, seq_nx, seq_rt, seq_bk, seq_ct, seq_exc, turn_nx, turn_ct, turn_bk, turn_rt, turn_exc, mk_true, mk_false, runS_rt, runS_nx, runS_exc, forL_nil, get_off, get_off0, set_off, set_off0, take_len,  sSeq, sIf, sSkip, sRet, sDrop, sAsg, sFor, sGhost, tFreeze, fTest, fBin, fUn, fCall, fCons, fNil, fVar, fC, fAnd, fOr, fNot, fIf, fLst, fTup, fChain, fAndV, fOrV, gNot, allV, g1, g2, gc1, gc2, Sl.get, okV, gNm, gUnp, gUnpL, gsNil, gsCons,  fSeq, fRng1, fRng2, fEnum, fComp, fYes, CT.put, setAll, wipeE, fMeth, isLst, lstAt, appendG, extendG, popG, popAtG, reverseG, countG, fNo, fPart, fSl, slF, revF, addF, subF, mulF, fdivF, modF, powF, ordF, negF, isNonF, isF, absF, max2F, min2F, int1F, lenF, listF, tupleF, sumF, maxF, minF, ixF,  gSubF, setL, sPar, sAug, runC, lift, pureOf, getAll, allVB, D.nol, D.nolL, startE, isiF, seqOf, fRgA, fRgB, rgL, rgT, fTru, truB, gUnpA, fRng3, fZip, zipF, fRev, imulF, ifdivF, fMeth2, isTup, countTG, seqA, seqInts, sumA, maxA, minA, fLenSet, tyName, clsL, clsNm, isiB, eqF_int, neF_int, eqF_ints, neF_ints, eqF_intsT, neF_intsT, hs2, hs3, r0, outer, addable]
theorem removable_eq {p : List Nat} (h : PS p) (μ : Store) : m_removable [.v (Tq p)] μ = .ok (.v (.lst ((removable p).map nD))) μ := by
  have hl := h.len
  have outer := cloop_on (enc := fun i : Nat => D.int i) (t := .nm 1) (ft := fTest (fBin (fBin (fVar 0) (fVar 1) (g2 ixF)) (fCall (m_part) (fCons (fVar 0) (fCons (fBin (fVar 1) (fC (.int 1)) (g2 (addF false))) (fNil)))) (g2 gtF))) (fe := fVar 1) (ρ := [some (.v (Tq p)), none]) (μ := [])
    (canRem p) nD (List.range p.length) (by rw [List.length_range, hlim]; omega) fun r m => ⟨_, rfl, by
      have m := List.mem_range.mp m
      have pe : m_part [.v (Tq p), .v (.int ((r : Int) + 1))] [] = _ := part_eq p (r + 1) []
      have e1 := atI_nat p r m
      simp [bind_ok, bind_exc, st_ok, st_exc, seq_nx, seq_rt, seq_bk, seq_ct, seq_exc, turn_nx, turn_ct, turn_bk, turn_rt, turn_exc, mk_true, mk_false, runS_rt, runS_nx, runS_exc, forL_nil, get_off, get_off0, set_off, set_off0, take_len,  sSeq, sIf, sSkip, sRet, sDrop, sAsg, sFor, sGhost, tFreeze, fTest, fBin, fUn, fCall, fCons, fNil, fVar, fC, fAnd, fOr, fNot, fIf, fLst, fTup, fChain, fAndV, fOrV, gNot, allV, g1, g2, gc1, gc2, Sl.get, okV, gNm, gUnp, gUnpL, gsNil, gsCons,  fSeq, fRng1, fRng2, fEnum, fComp, fYes, CT.put, setAll, wipeE, fMeth, isLst, lstAt, appendG, extendG, popG, popAtG, reverseG, countG, fNo, fPart, fSl, slF, revF, addF, subF, mulF, fdivF, modF, powF, ordF, negF, isNonF, isF, absF, max2F, min2F, int1F, lenF, listF, tupleF, sumF, maxF, minF, ixF,  gSubF, setL, sPar, sAug, runC, lift, pureOf, getAll, allVB, D.nol, D.nolL, startE, isiF, seqOf, fRgA, fRgB, rgL, rgT, fTru, truB, gUnpA, fRng3, fZip, zipF, fRev, imulF, ifdivF, fMeth2, isTup, countTG, seqA, seqInts, sumA, maxA, minA, fLenSet, tyName, clsL, clsNm, isiB, eqF_int, neF_int, eqF_ints, neF_ints, eqF_intsT, neF_intsT, canRem, e1, pe], fun _ => by simp [bind_ok, bind_exc, st_ok, st_exc, seq_nx, seq_rt, seq_bk, seq_ct, seq_exc, turn_nx, turn_ct, turn_bk, turn_rt, turn_exc, mk_true, mk_false, runS_rt, runS_nx, runS_exc, forL_nil, get_off, get_off0, set_off, set_off0, take_len,  sSeq, sIf, sSkip, sRet, sDrop, sAsg, sFor, sGhost, tFreeze, fTest, fBin, fUn, fCall, fCons, fNil, fVar, fC, fAnd, fOr, fNot, fIf, fLst, fTup, fChain, fAndV, fOrV, gNot, allV, g1, g2, gc1, gc2, Sl.get, okV, gNm, gUnp, gUnpL, gsNil, gsCons,  fSeq, fRng1, fRng2, fEnum, fComp, fYes, CT.put, setAll, wipeE, fMeth, isLst, lstAt, appendG, extendG, popG, popAtG, reverseG, countG, fNo, fPart, fSl, slF, revF, addF, subF, mulF, fdivF, modF, powF, ordF, negF, isNonF, isF, absF, max2F, min2F, int1F, lenF, listF, tupleF, sumF, maxF, minF, ixF,  gSubF, setL, sPar, sAug, runC, lift, pureOf, getAll, allVB, D.nol, D.nolL, startE, isiF, seqOf, fRgA, fRgB, rgL, rgT, fTru, truB, gUnpA, fRng3, fZip, zipF, fRev, imulF, ifdivF, fMeth2, isTup, countTG, seqA, seqInts, sumA, maxA, minA, fLenSet, tyName, clsL, clsNm, isiB, eqF_int, neF_int, eqF_ints, neF_ints, eqF_intsT, neF_intsT]⟩
  have r0 := rangeD0 p.length
  have hs : p.length < 2305843009213693952 := by omega
  simp only [m_removable, b_removable]
  simp [bind_ok, bind_exc, st_ok, st_exc, seq_nx, seq_rt, seq_bk, seq_ct, seq_exc, turn_nx, turn_ct, turn_bk, turn_rt, turn_exc, mk_true, mk_false, runS_rt, runS_nx, runS_exc, forL_nil, get_off, get_off0, set_off, set_off0, take_len,  sSeq, sIf, sSkip, sRet, sDrop, sAsg, sFor, sGhost, tFreeze, fTest, fBin, fUn, fCall, fCons, fNil, fVar, fC, fAnd, fOr, fNot, fIf, fLst, fTup, fChain, fAndV, fOrV, gNot, allV, g1, g2, gc1, gc2, Sl.get, okV, gNm, gUnp, gUnpL, gsNil, gsCons,  fSeq, fRng1, fRng2, fEnum, fComp, fYes, CT.put, setAll, wipeE, fMeth, isLst, lstAt, appendG, extendG, popG, popAtG, reverseG, countG, fNo, fPart, fSl, slF, revF, addF, subF, mulF, fdivF, modF, powF, ordF, negF, isNonF, isF, absF, max2F, min2F, int1F, lenF, listF, tupleF, sumF, maxF, minF, ixF,  gSubF, setL, sPar, sAug, runC, lift, pureOf, getAll, allVB, D.nol, D.nolL, startE, isiF, seqOf, fRgA, fRgB, rgL, rgT, fTru, truB, gUnpA, fRng3, fZip, zipF, fRev, imulF, ifdivF, fMeth2, isTup, countTG, seqA, seqInts, sumA, maxA, minA, fLenSet, tyName, clsL, clsNm, isiB, eqF_int, neF_int, eqF_ints, neF_ints, eqF_intsT, neF_intsT, hs, r0, outer, removable]
theorem natEq (a b : Nat) : decide ((a : Int) = (b : Int)) = (a == b) := by
  rw [Bool.eq_iff_iff]
  simp only [decide_eq_true_eq, beq_iff_eq]
  omega
/-! membership -/
theorem eqv_bD (b : Nat × Nat) (x y : Int) : PyData.eqv (bD b).py (D.tup [.int x, .int y]).py = (decide ((b.1 : Int) = x) && decide ((b.2 : Int) = y)) := by
  simp only [D.py, D.pyL, PyData.eqv, PyData.eqvAll, Bool.and_true]
  rfl
theorem inD_bx (x y : Nat) (bs : List (Nat × Nat)) : inD (.tup [.int (x : Int), .int (y : Int)]) (bs.map bD) = bs.contains (x, y) := by
  unfold inD
  rw [List.any_map, Bool.eq_iff_iff]
  simp only [List.any_eq_true, Function.comp, eqv_bD, List.contains_iff_mem, Bool.and_eq_true, decide_eq_true_eq]
  constructor
  · rintro ⟨⟨a, b⟩, m, h1, h2⟩
    have h1 : a = x := by simp only at h1; omega
    have h2 : b = y := by simp only at h2; omega
    rw [← h1, ← h2]; exact m
  · intro m
    exact ⟨(x, y), m, rfl, rfl⟩
theorem shp_bD (b : Nat × Nat) (n : Nat) : shp (n + 1) (bD b) := shp_tup fun d m => by
  simp only [List.mem_cons, List.not_mem_nil, or_false] at m
  rcases m with rfl | rfl
  · exact shp_int _ _
  · exact shp_int _ _
theorem shp_Bx (bs : List (Nat × Nat)) (n : Nat) : shp (n + 2) (Bx bs) := shp_lst fun d m => by
  obtain ⟨b, _, rfl⟩ := List.mem_map.mp m
  exact shp_bD b n
theorem inF_bx (neg : Bool) (x y : Nat) (bs : List (Nat × Nat)) (μ : Store) : inF neg (.tup [.int (x : Int), .int (y : Int)]) (Bx bs) μ = okV (.bl (if neg then !bs.contains (x, y) else bs.contains (x, y))) μ := by
  show (if _ then _ else _) = _
  rw [if_pos ⟨shp_ok (shp_bD (x, y) 63), shp_ok (shp_Bx bs 62)⟩, inD_bx]
theorem inD_nats (x : Int) (xs : List Nat) : inD (.int x) (xs.map nD) = xs.any fun y => decide ((y : Int) = x) := by
  unfold inD
  rw [List.any_map]
  congr 1
theorem shp_nats (xs : List Nat) (n : Nat) : shp (n + 1) (.lst (xs.map nD)) := shp_lst fun d m => by
  obtain ⟨b, _, rfl⟩ := List.mem_map.mp m
  exact shp_int _ n
theorem shp_natsT (xs : List Nat) (n : Nat) : shp (n + 1) (Tq xs) := shp_tup fun d m => by
  obtain ⟨b, _, rfl⟩ := List.mem_map.mp m
  exact shp_int _ n
theorem inF_nats (neg : Bool) (x : Int) (xs : List Nat) (μ : Store) : inF neg (.int x) (.lst (xs.map nD)) μ = okV (.bl (if neg then !(xs.any fun y => decide ((y : Int) = x)) else xs.any fun y => decide ((y : Int) = x))) μ := by
  show (if _ then _ else _) = _
  rw [if_pos ⟨shp_ok (shp_int _ 64), shp_ok (shp_nats xs 63)⟩, inD_nats]
theorem any_nat (r : Nat) (xs : List Nat) : (xs.any fun y => decide ((y : Int) = (r : Int))) = xs.contains r := by
  rw [Bool.eq_iff_iff]
  simp only [List.any_eq_true, decide_eq_true_eq, List.contains_iff_mem]
  constructor
  · rintro ⟨y, m, e⟩
    have e : y = r := by omega
    rw [← e]; exact m
  · intro m
    exact ⟨r, m, rfl⟩
/-! boxes -/
theorem boxes_loop {p : List Nat} (h : PS p) : ∃ o2 , sForL (gNm 2) b__law_boxes_1 (rangeD 0 p.length) [some (.v (Tq p)), some (.c 0), none, none] [some (.lst [])] = .go .nx [some (.v (Tq p)), some (.c 0), o2, none] [some (Bx (boxes p))] := by
  have hl := h.len
  obtain ⟨ρ', μ', e, o2, rfl, rfl⟩ := forL_inv (tg := gNm 2) (body := b__law_boxes_1) (ds := rangeD 0 p.length) (ρ := [some (.v (Tq p)), some (.c 0), none, none]) (μ := [some (.lst [])])
    (fun i ρ μ => ∃ o2, ρ = [some (.v (Tq p)), some (.c 0), o2, none] ∧ μ = [some (Bx (boxes (p.take i)))]) ⟨none, rfl, rfl⟩ (fun i d ρ μ hd ⟨o2, e1, e2⟩ => by
      obtain ⟨hi, rfl⟩ := rangeD_get hd
      subst e1 e2
      have ga := atI_nat p i hi
      have c := cloop_all (enc := fun i : Nat => D.int i) (t := .nm 3) (fe := fTup (fCons (fVar 2) (fCons (fVar 3) (fNil)))) (ρ := [some (.v (Tq p)), some (.c 0), some (.v (.int (i : Nat))), none]) (μ := [some (Bx (boxes (p.take i)))]) (fun c => bD (i, c)) (List.range (pt p i)) (by have := h.pt i; rw [List.length_range, hlim]; omega) fun c m => ⟨_, rfl, by simp [bind_ok, bind_exc, st_ok, st_exc, seq_nx, seq_rt, seq_bk, seq_ct, seq_exc, turn_nx, turn_ct, turn_bk, turn_rt, turn_exc, mk_true, mk_false, runS_rt, runS_nx, runS_exc, forL_nil, get_off, get_off0, set_off, set_off0, take_len,  sSeq, sIf, sSkip, sRet, sDrop, sAsg, sFor, sGhost, tFreeze, fTest, fBin, fUn, fCall, fCons, fNil, fVar, fC, fAnd, fOr, fNot, fIf, fLst, fTup, fChain, fAndV, fOrV, gNot, allV, g1, g2, gc1, gc2, Sl.get, okV, gNm, gUnp, gUnpL, gsNil, gsCons,  fSeq, fRng1, fRng2, fEnum, fComp, fYes, CT.put, setAll, wipeE, fMeth, isLst, lstAt, appendG, extendG, popG, popAtG, reverseG, countG, fNo, fPart, fSl, slF, revF, addF, subF, mulF, fdivF, modF, powF, ordF, negF, isNonF, isF, absF, max2F, min2F, int1F, lenF, listF, tupleF, sumF, maxF, minF, ixF,  gSubF, setL, sPar, sAug, runC, lift, pureOf, getAll, allVB, D.nol, D.nolL, startE, isiF, seqOf, fRgA, fRgB, rgL, rgT, fTru, truB, gUnpA, fRng3, fZip, zipF, fRev, imulF, ifdivF, fMeth2, isTup, countTG, seqA, seqInts, sumA, maxA, minA, fLenSet, tyName, clsL, clsNm, isiB, eqF_int, neF_int, eqF_ints, neF_ints, eqF_intsT, neF_intsT]⟩
      have tk : boxes (p.take (i + 1)) = boxes (p.take i) ++ (List.range (pt p i)).map fun c => (i, c) := by
        rw [List.take_succ, List.getElem?_eq_getElem hi, pt_lt hi]
        show boxesF 0 (_ ++ [p[i]]) = _
        rw [boxesF_snoc, List.length_take, Nat.min_eq_left (by omega), Nat.zero_add]
      have r0 := rangeD0 (pt p i)
      have hs : pt p i < 2305843009213693952 := by have := h.pt i; omega
      have bnd : ∀ q : List Nat, (∀ x ∈ q, x ≤ 1000) → q.sum ≤ q.length * 1000 := by
        intro q
        induction q with
        | nil => intro _; simp
        | cons x q ih =>
          intro hq
          have h1 := hq x (by simp)
          have h2 := ih fun y m => hq y (List.mem_cons_of_mem _ m)
          rw [List.sum_cons, List.length_cons, Nat.add_mul]; omega
      have bs : (boxes (p.take i)).length + (List.range (pt p i)).length ≤ lim := by
        have := bnd (p.take i) fun x m => h.top x (List.mem_of_mem_take m)
        rw [len_boxesF, List.length_range, hlim]
        have h3 := h.pt i
        have h4 : (p.take i).length ≤ 1000 := by rw [List.length_take]; omega
        have h5 := Nat.mul_le_mul_right 1000 h4
        omega
      refine ⟨_, _, _, _, rfl, ?_, some (.v (.int (0 + (i : Nat)))), rfl, rfl⟩
      rw [tk]
      simp at bs
      simp [b__law_boxes_1, bind_ok, bind_exc, st_ok, st_exc, seq_nx, seq_rt, seq_bk, seq_ct, seq_exc, turn_nx, turn_ct, turn_bk, turn_rt, turn_exc, mk_true, mk_false, runS_rt, runS_nx, runS_exc, forL_nil, get_off, get_off0, set_off, set_off0, take_len,  sSeq, sIf, sSkip, sRet, sDrop, sAsg, sFor, sGhost, tFreeze, fTest, fBin, fUn, fCall, fCons, fNil, fVar, fC, fAnd, fOr, fNot, fIf, fLst, fTup, fChain, fAndV, fOrV, gNot, allV, g1, g2, gc1, gc2, Sl.get, okV, gNm, gUnp, gUnpL, gsNil, gsCons,  fSeq, fRng1, fRng2, fEnum, fComp, fYes, CT.put, setAll, wipeE, fMeth, isLst, lstAt, appendG, extendG, popG, popAtG, reverseG, countG, fNo, fPart, fSl, slF, revF, addF, subF, mulF, fdivF, modF, powF, ordF, negF, isNonF, isF, absF, max2F, min2F, int1F, lenF, listF, tupleF, sumF, maxF, minF, ixF,  gSubF, setL, sPar, sAug, runC, lift, pureOf, getAll, allVB, D.nol, D.nolL, startE, isiF, seqOf, fRgA, fRgB, rgL, rgT, fTru, truB, gUnpA, fRng3, fZip, zipF, fRev, imulF, ifdivF, fMeth2, isTup, countTG, seqA, seqInts, sumA, maxA, minA, fLenSet, tyName, clsL, clsNm, isiB, eqF_int, neF_int, eqF_ints, neF_ints, eqF_intsT, neF_intsT, ga, hs, r0, c, bs])
  rw [rangeD_len, List.take_of_length_le (Nat.le_refl _)] at e
  exact ⟨o2, e⟩
theorem boxes_eq {p : List Nat} (h : PS p) (μ : Store) : m__law_boxes [.v (Tq p)] μ = .ok (.v (Bx (boxes p))) μ := by
  obtain ⟨o2, lp⟩ := boxes_loop h
  have hl := h.len
  have hs : p.length < 2305843009213693952 := by omega
  simp only [m__law_boxes, b__law_boxes]
  simp [bind_ok, bind_exc, st_ok, st_exc, seq_nx, seq_rt, seq_bk, seq_ct, seq_exc, turn_nx, turn_ct, turn_bk, turn_rt, turn_exc, mk_true, mk_false, runS_rt, runS_nx, runS_exc, forL_nil, get_off, get_off0, set_off, set_off0, take_len,  sSeq, sIf, sSkip, sRet, sDrop, sAsg, sFor, sGhost, tFreeze, fTest, fBin, fUn, fCall, fCons, fNil, fVar, fC, fAnd, fOr, fNot, fIf, fLst, fTup, fChain, fAndV, fOrV, gNot, allV, g1, g2, gc1, gc2, Sl.get, okV, gNm, gUnp, gUnpL, gsNil, gsCons,  fSeq, fRng1, fRng2, fEnum, fComp, fYes, CT.put, setAll, wipeE, fMeth, isLst, lstAt, appendG, extendG, popG, popAtG, reverseG, countG, fNo, fPart, fSl, slF, revF, addF, subF, mulF, fdivF, modF, powF, ordF, negF, isNonF, isF, absF, max2F, min2F, int1F, lenF, listF, tupleF, sumF, maxF, minF, ixF,  gSubF, setL, sPar, sAug, runC, lift, pureOf, getAll, allVB, D.nol, D.nolL, startE, isiF, seqOf, fRgA, fRgB, rgL, rgT, fTru, truB, gUnpA, fRng3, fZip, zipF, fRev, imulF, ifdivF, fMeth2, isTup, countTG, seqA, seqInts, sumA, maxA, minA, fLenSet, tyName, clsL, clsNm, isiB, eqF_int, neF_int, eqF_ints, neF_ints, eqF_intsT, neF_intsT, hs]
  rw [lp]
  simp [bind_ok, bind_exc, st_ok, st_exc, seq_nx, seq_rt, seq_bk, seq_ct, seq_exc, turn_nx, turn_ct, turn_bk, turn_rt, turn_exc, mk_true, mk_false, runS_rt, runS_nx, runS_exc, forL_nil, get_off, get_off0, set_off, set_off0, take_len,  sSeq, sIf, sSkip, sRet, sDrop, sAsg, sFor, sGhost, tFreeze, fTest, fBin, fUn, fCall, fCons, fNil, fVar, fC, fAnd, fOr, fNot, fIf, fLst, fTup, fChain, fAndV, fOrV, gNot, allV, g1, g2, gc1, gc2, Sl.get, okV, gNm, gUnp, gUnpL, gsNil, gsCons,  fSeq, fRng1, fRng2, fEnum, fComp, fYes, CT.put, setAll, wipeE, fMeth, isLst, lstAt, appendG, extendG, popG, popAtG, reverseG, countG, fNo, fPart, fSl, slF, revF, addF, subF, mulF, fdivF, modF, powF, ordF, negF, isNonF, isF, absF, max2F, min2F, int1F, lenF, listF, tupleF, sumF, maxF, minF, ixF,  gSubF, setL, sPar, sAug, runC, lift, pureOf, getAll, allVB, D.nol, D.nolL, startE, isiF, seqOf, fRgA, fRgB, rgL, rgT, fTru, truB, gUnpA, fRng3, fZip, zipF, fRev, imulF, ifdivF, fMeth2, isTup, countTG, seqA, seqInts, sumA, maxA, minA, fLenSet, tyName, clsL, clsNm, isiB, eqF_int, neF_int, eqF_ints, neF_ints, eqF_intsT, neF_intsT]
/-! rows -/
theorem maxL_dep : ∀ bs : List (Nat × Nat), maxL (-1 :: bs.map fun b => (b.1 : Int)) + 1 = (dep bs : Nat) := by
  have key : ∀ (b : Nat × Nat) (bs : List (Nat × Nat)), maxL ((b :: bs).map fun b => (b.1 : Int)) + 1 = (dep (b :: bs) : Nat) := by
    intro b bs
    induction bs generalizing b with
    | nil => simp [maxL, dep]
    | cons c bs ih =>
      have i := ih c
      show max (b.1 : Int) (maxL ((c :: bs).map fun b => (b.1 : Int))) + 1 = _
      have e : dep (b :: c :: bs) = max (b.1 + 1) (dep (c :: bs)) := rfl
      rw [e]
      omega
  intro bs
  cases bs with
  | nil => rfl
  | cons b bs =>
    have i := key b bs
    have hp : 0 < dep (b :: bs) := by simp only [dep]; omega
    show max (-1 : Int) (maxL ((b :: bs).map fun b => (b.1 : Int))) + 1 = _
    omega
theorem rows_eq (bs : List (Nat × Nat)) (hb : bs.length ≤ 2000000) (hd : dep bs ≤ 2000000) (μ : Store) : m__law_rows_of [.v (Bx bs)] μ = .ok (.v (Tq (rowsOf bs))) μ := by
  have c1 := cloop_all (enc := bD) (t := .tp [3, 4]) (fe := fVar 3) (ρ := [some (.v (Bx bs)), none, none, none, none]) (μ := []) (fun b => D.int (b.1 : Int)) bs (by rw [hlim]; omega) fun b m => ⟨_, rfl, by simp [bind_ok, bind_exc, st_ok, st_exc, seq_nx, seq_rt, seq_bk, seq_ct, seq_exc, turn_nx, turn_ct, turn_bk, turn_rt, turn_exc, mk_true, mk_false, runS_rt, runS_nx, runS_exc, forL_nil, get_off, get_off0, set_off, set_off0, take_len,  sSeq, sIf, sSkip, sRet, sDrop, sAsg, sFor, sGhost, tFreeze, fTest, fBin, fUn, fCall, fCons, fNil, fVar, fC, fAnd, fOr, fNot, fIf, fLst, fTup, fChain, fAndV, fOrV, gNot, allV, g1, g2, gc1, gc2, Sl.get, okV, gNm, gUnp, gUnpL, gsNil, gsCons,  fSeq, fRng1, fRng2, fEnum, fComp, fYes, CT.put, setAll, wipeE, fMeth, isLst, lstAt, appendG, extendG, popG, popAtG, reverseG, countG, fNo, fPart, fSl, slF, revF, addF, subF, mulF, fdivF, modF, powF, ordF, negF, isNonF, isF, absF, max2F, min2F, int1F, lenF, listF, tupleF, sumF, maxF, minF, ixF,  gSubF, setL, sPar, sAug, runC, lift, pureOf, getAll, allVB, D.nol, D.nolL, startE, isiF, seqOf, fRgA, fRgB, rgL, rgT, fTru, truB, gUnpA, fRng3, fZip, zipF, fRev, imulF, ifdivF, fMeth2, isTup, countTG, seqA, seqInts, sumA, maxA, minA, fLenSet, tyName, clsL, clsNm, isiB, eqF_int, neF_int, eqF_ints, neF_ints, eqF_intsT, neF_intsT]⟩
  have ii := intsOf_on (fun b : Nat × Nat => (b.1 : Int)) bs
  have inner : ∀ a : Nat, cLoop (.tp [3, 4]) (fTest (fBin (fVar 3) (fVar 2) (g2 eqF))) (fC (.int 1)) [some (.v (Bx bs)), some (.v (.int (dep bs : Nat))), some (.v (.int a)), none, none] (bs.map bD) [] [] = .ok ((bs.filter fun b => b.1 == a).map fun _ => D.int 1) [] := fun a =>
    cloop_on (fun b : Nat × Nat => b.1 == a) (fun _ => D.int 1) bs (by rw [hlim]; omega) fun b m => ⟨_, rfl, by simp [bind_ok, bind_exc, st_ok, st_exc, seq_nx, seq_rt, seq_bk, seq_ct, seq_exc, turn_nx, turn_ct, turn_bk, turn_rt, turn_exc, mk_true, mk_false, runS_rt, runS_nx, runS_exc, forL_nil, get_off, get_off0, set_off, set_off0, take_len,  sSeq, sIf, sSkip, sRet, sDrop, sAsg, sFor, sGhost, tFreeze, fTest, fBin, fUn, fCall, fCons, fNil, fVar, fC, fAnd, fOr, fNot, fIf, fLst, fTup, fChain, fAndV, fOrV, gNot, allV, g1, g2, gc1, gc2, Sl.get, okV, gNm, gUnp, gUnpL, gsNil, gsCons,  fSeq, fRng1, fRng2, fEnum, fComp, fYes, CT.put, setAll, wipeE, fMeth, isLst, lstAt, appendG, extendG, popG, popAtG, reverseG, countG, fNo, fPart, fSl, slF, revF, addF, subF, mulF, fdivF, modF, powF, ordF, negF, isNonF, isF, absF, max2F, min2F, int1F, lenF, listF, tupleF, sumF, maxF, minF, ixF,  gSubF, setL, sPar, sAug, runC, lift, pureOf, getAll, allVB, D.nol, D.nolL, startE, isiF, seqOf, fRgA, fRgB, rgL, rgT, fTru, truB, gUnpA, fRng3, fZip, zipF, fRev, imulF, ifdivF, fMeth2, isTup, countTG, seqA, seqInts, sumA, maxA, minA, fLenSet, tyName, clsL, clsNm, isiB, eqF_int, neF_int, eqF_ints, neF_ints, eqF_intsT, neF_intsT, natEq], fun _ => by simp [bind_ok, bind_exc, st_ok, st_exc, seq_nx, seq_rt, seq_bk, seq_ct, seq_exc, turn_nx, turn_ct, turn_bk, turn_rt, turn_exc, mk_true, mk_false, runS_rt, runS_nx, runS_exc, forL_nil, get_off, get_off0, set_off, set_off0, take_len,  sSeq, sIf, sSkip, sRet, sDrop, sAsg, sFor, sGhost, tFreeze, fTest, fBin, fUn, fCall, fCons, fNil, fVar, fC, fAnd, fOr, fNot, fIf, fLst, fTup, fChain, fAndV, fOrV, gNot, allV, g1, g2, gc1, gc2, Sl.get, okV, gNm, gUnp, gUnpL, gsNil, gsCons,  fSeq, fRng1, fRng2, fEnum, fComp, fYes, CT.put, setAll, wipeE, fMeth, isLst, lstAt, appendG, extendG, popG, popAtG, reverseG, countG, fNo, fPart, fSl, slF, revF, addF, subF, mulF, fdivF, modF, powF, ordF, negF, isNonF, isF, absF, max2F, min2F, int1F, lenF, listF, tupleF, sumF, maxF, minF, ixF,  gSubF, setL, sPar, sAug, runC, lift, pureOf, getAll, allVB, D.nol, D.nolL, startE, isiF, seqOf, fRgA, fRgB, rgL, rgT, fTru, truB, gUnpA, fRng3, fZip, zipF, fRev, imulF, ifdivF, fMeth2, isTup, countTG, seqA, seqInts, sumA, maxA, minA, fLenSet, tyName, clsL, clsNm, isiB, eqF_int, neF_int, eqF_ints, neF_ints, eqF_intsT, neF_intsT]⟩
  have outer := cloop_all (enc := fun i : Nat => D.int i) (t := .nm 2) (fe := fCall (gc1 lenF) (fCons (fComp false [3, 4] (fSeq (fVar 0)) (CT.tp [3, 4]) (fTest (fBin (fVar 3) (fVar 2) (g2 eqF))) (fC (.int 1))) (fNil))) (ρ := [some (.v (Bx bs)), some (.v (.int (dep bs : Nat))), none, none, none]) (μ := [])
    (fun a => nD (bs.countP fun b => b.1 == a)) (List.range (dep bs)) (by rw [List.length_range, hlim]; omega) fun a m => ⟨_, rfl, by
      have i := inner a
      simp [bind_ok, bind_exc, st_ok, st_exc, seq_nx, seq_rt, seq_bk, seq_ct, seq_exc, turn_nx, turn_ct, turn_bk, turn_rt, turn_exc, mk_true, mk_false, runS_rt, runS_nx, runS_exc, forL_nil, get_off, get_off0, set_off, set_off0, take_len,  sSeq, sIf, sSkip, sRet, sDrop, sAsg, sFor, sGhost, tFreeze, fTest, fBin, fUn, fCall, fCons, fNil, fVar, fC, fAnd, fOr, fNot, fIf, fLst, fTup, fChain, fAndV, fOrV, gNot, allV, g1, g2, gc1, gc2, Sl.get, okV, gNm, gUnp, gUnpL, gsNil, gsCons,  fSeq, fRng1, fRng2, fEnum, fComp, fYes, CT.put, setAll, wipeE, fMeth, isLst, lstAt, appendG, extendG, popG, popAtG, reverseG, countG, fNo, fPart, fSl, slF, revF, addF, subF, mulF, fdivF, modF, powF, ordF, negF, isNonF, isF, absF, max2F, min2F, int1F, lenF, listF, tupleF, sumF, maxF, minF, ixF,  gSubF, setL, sPar, sAug, runC, lift, pureOf, getAll, allVB, D.nol, D.nolL, startE, isiF, seqOf, fRgA, fRgB, rgL, rgT, fTru, truB, gUnpA, fRng3, fZip, zipF, fRev, imulF, ifdivF, fMeth2, isTup, countTG, seqA, seqInts, sumA, maxA, minA, fLenSet, tyName, clsL, clsNm, isiB, eqF_int, neF_int, eqF_ints, neF_ints, eqF_intsT, neF_intsT, i, List.countP_eq_length_filter]⟩
  have r0 := rangeD0 (dep bs)
  have hs : dep bs < 2305843009213693952 := by omega
  have md := maxL_dep bs
  have hl : 1 + bs.length ≤ lim := by rw [hlim]; omega
  simp only [m__law_rows_of, b__law_rows_of]
  have i2 : intsOf (D.int (-1) :: bs.map fun b => D.int (b.1 : Int)) = some (-1 :: bs.map fun b => (b.1 : Int)) := by
    show (intsOf (bs.map fun b => D.int (b.1 : Int))).map ((-1 : Int) :: ·) = _
    rw [ii]; rfl
  simp [bind_ok, bind_exc, st_ok, st_exc, seq_nx, seq_rt, seq_bk, seq_ct, seq_exc, turn_nx, turn_ct, turn_bk, turn_rt, turn_exc, mk_true, mk_false, runS_rt, runS_nx, runS_exc, forL_nil, get_off, get_off0, set_off, set_off0, take_len,  sSeq, sIf, sSkip, sRet, sDrop, sAsg, sFor, sGhost, tFreeze, fTest, fBin, fUn, fCall, fCons, fNil, fVar, fC, fAnd, fOr, fNot, fIf, fLst, fTup, fChain, fAndV, fOrV, gNot, allV, g1, g2, gc1, gc2, Sl.get, okV, gNm, gUnp, gUnpL, gsNil, gsCons,  fSeq, fRng1, fRng2, fEnum, fComp, fYes, CT.put, setAll, wipeE, fMeth, isLst, lstAt, appendG, extendG, popG, popAtG, reverseG, countG, fNo, fPart, fSl, slF, revF, addF, subF, mulF, fdivF, modF, powF, ordF, negF, isNonF, isF, absF, max2F, min2F, int1F, lenF, listF, tupleF, sumF, maxF, minF, ixF,  gSubF, setL, sPar, sAug, runC, lift, pureOf, getAll, allVB, D.nol, D.nolL, startE, isiF, seqOf, fRgA, fRgB, rgL, rgT, fTru, truB, gUnpA, fRng3, fZip, zipF, fRev, imulF, ifdivF, fMeth2, isTup, countTG, seqA, seqInts, sumA, maxA, minA, fLenSet, tyName, clsL, clsNm, isiB, eqF_int, neF_int, eqF_ints, neF_ints, eqF_intsT, neF_intsT, c1, hl, i2, md, hs, r0, outer, rowsOf]
/-! shapes -/
theorem isShape_eq (bs : List (Nat × Nat)) (μ : Store) : m__law_is_shape [.v (Bx bs)] μ = .ok (.v (.bl (isShape bs))) μ := by
  have l := forL_allR (enc := bD) (tg := gUnpA 2 (gsCons (gNm 1) (gsCons (gNm 2) (gsNil)))) (body := b__law_is_shape_1) (fun ρ μ => ∃ o1 o2, ρ = [some (.v (Bx bs)), o1, o2] ∧ μ = [])
    (fun b => (b.1 == 0 || bs.contains (b.1 - 1, b.2)) && (b.2 == 0 || bs.contains (b.1, b.2 - 1))) (.v (.bl false)) bs [some (.v (Bx bs)), none, none] [] ⟨none, none, rfl, rfl⟩ (fun b m ρ μ hI => by
      obtain ⟨o1, o2, rfl, rfl⟩ := hI
      obtain ⟨r, c⟩ := b
      refine ⟨[some (.v (Bx bs)), some (.v (.int (r : Nat))), some (.v (.int (c : Nat)))], [], by simp [bind_ok, bind_exc, st_ok, st_exc, seq_nx, seq_rt, seq_bk, seq_ct, seq_exc, turn_nx, turn_ct, turn_bk, turn_rt, turn_exc, mk_true, mk_false, runS_rt, runS_nx, runS_exc, forL_nil, get_off, get_off0, set_off, set_off0, take_len,  sSeq, sIf, sSkip, sRet, sDrop, sAsg, sFor, sGhost, tFreeze, fTest, fBin, fUn, fCall, fCons, fNil, fVar, fC, fAnd, fOr, fNot, fIf, fLst, fTup, fChain, fAndV, fOrV, gNot, allV, g1, g2, gc1, gc2, Sl.get, okV, gNm, gUnp, gUnpL, gsNil, gsCons,  fSeq, fRng1, fRng2, fEnum, fComp, fYes, CT.put, setAll, wipeE, fMeth, isLst, lstAt, appendG, extendG, popG, popAtG, reverseG, countG, fNo, fPart, fSl, slF, revF, addF, subF, mulF, fdivF, modF, powF, ordF, negF, isNonF, isF, absF, max2F, min2F, int1F, lenF, listF, tupleF, sumF, maxF, minF, ixF,  gSubF, setL, sPar, sAug, runC, lift, pureOf, getAll, allVB, D.nol, D.nolL, startE, isiF, seqOf, fRgA, fRgB, rgL, rgT, fTru, truB, gUnpA, fRng3, fZip, zipF, fRev, imulF, ifdivF, fMeth2, isTup, countTG, seqA, seqInts, sumA, maxA, minA, fLenSet, tyName, clsL, clsNm, isiB, eqF_int, neF_int, eqF_ints, neF_ints, eqF_intsT, neF_intsT], ?_⟩
      have nz : ∀ k : Nat, (0 : Int) < (k : Int) + 1 := fun k => by omega
      have i1 := fun k : Nat => inF_bx true k c bs []
      have i2 := fun k : Nat => inF_bx true r k bs []
      refine ⟨fun hg => ⟨[some (.v (Bx bs)), some (.v (.int (r : Nat))), some (.v (.int (c : Nat)))], [], ?_, _, _, rfl, rfl⟩, fun hg => ⟨[some (.v (Bx bs)), some (.v (.int (r : Nat))), some (.v (.int (c : Nat)))], [], ?_⟩⟩
      · cases r with
        | zero =>
          cases c with
          | zero => simp [b__law_is_shape_1, bind_ok, bind_exc, st_ok, st_exc, seq_nx, seq_rt, seq_bk, seq_ct, seq_exc, turn_nx, turn_ct, turn_bk, turn_rt, turn_exc, mk_true, mk_false, runS_rt, runS_nx, runS_exc, forL_nil, get_off, get_off0, set_off, set_off0, take_len,  sSeq, sIf, sSkip, sRet, sDrop, sAsg, sFor, sGhost, tFreeze, fTest, fBin, fUn, fCall, fCons, fNil, fVar, fC, fAnd, fOr, fNot, fIf, fLst, fTup, fChain, fAndV, fOrV, gNot, allV, g1, g2, gc1, gc2, Sl.get, okV, gNm, gUnp, gUnpL, gsNil, gsCons,  fSeq, fRng1, fRng2, fEnum, fComp, fYes, CT.put, setAll, wipeE, fMeth, isLst, lstAt, appendG, extendG, popG, popAtG, reverseG, countG, fNo, fPart, fSl, slF, revF, addF, subF, mulF, fdivF, modF, powF, ordF, negF, isNonF, isF, absF, max2F, min2F, int1F, lenF, listF, tupleF, sumF, maxF, minF, ixF,  gSubF, setL, sPar, sAug, runC, lift, pureOf, getAll, allVB, D.nol, D.nolL, startE, isiF, seqOf, fRgA, fRgB, rgL, rgT, fTru, truB, gUnpA, fRng3, fZip, zipF, fRev, imulF, ifdivF, fMeth2, isTup, countTG, seqA, seqInts, sumA, maxA, minA, fLenSet, tyName, clsL, clsNm, isiB, eqF_int, neF_int, eqF_ints, neF_ints, eqF_intsT, neF_intsT]
          | succ c =>
            have j2 := i2 c
            simp at hg j2
            simp [b__law_is_shape_1, bind_ok, bind_exc, st_ok, st_exc, seq_nx, seq_rt, seq_bk, seq_ct, seq_exc, turn_nx, turn_ct, turn_bk, turn_rt, turn_exc, mk_true, mk_false, runS_rt, runS_nx, runS_exc, forL_nil, get_off, get_off0, set_off, set_off0, take_len,  sSeq, sIf, sSkip, sRet, sDrop, sAsg, sFor, sGhost, tFreeze, fTest, fBin, fUn, fCall, fCons, fNil, fVar, fC, fAnd, fOr, fNot, fIf, fLst, fTup, fChain, fAndV, fOrV, gNot, allV, g1, g2, gc1, gc2, Sl.get, okV, gNm, gUnp, gUnpL, gsNil, gsCons,  fSeq, fRng1, fRng2, fEnum, fComp, fYes, CT.put, setAll, wipeE, fMeth, isLst, lstAt, appendG, extendG, popG, popAtG, reverseG, countG, fNo, fPart, fSl, slF, revF, addF, subF, mulF, fdivF, modF, powF, ordF, negF, isNonF, isF, absF, max2F, min2F, int1F, lenF, listF, tupleF, sumF, maxF, minF, ixF,  gSubF, setL, sPar, sAug, runC, lift, pureOf, getAll, allVB, D.nol, D.nolL, startE, isiF, seqOf, fRgA, fRgB, rgL, rgT, fTru, truB, gUnpA, fRng3, fZip, zipF, fRev, imulF, ifdivF, fMeth2, isTup, countTG, seqA, seqInts, sumA, maxA, minA, fLenSet, tyName, clsL, clsNm, isiB, eqF_int, neF_int, eqF_ints, neF_ints, eqF_intsT, neF_intsT, nz, j2, hg]
        | succ r =>
          have j1 := i1 r
          cases c with
          | zero =>
            simp at hg j1
            simp [b__law_is_shape_1, bind_ok, bind_exc, st_ok, st_exc, seq_nx, seq_rt, seq_bk, seq_ct, seq_exc, turn_nx, turn_ct, turn_bk, turn_rt, turn_exc, mk_true, mk_false, runS_rt, runS_nx, runS_exc, forL_nil, get_off, get_off0, set_off, set_off0, take_len,  sSeq, sIf, sSkip, sRet, sDrop, sAsg, sFor, sGhost, tFreeze, fTest, fBin, fUn, fCall, fCons, fNil, fVar, fC, fAnd, fOr, fNot, fIf, fLst, fTup, fChain, fAndV, fOrV, gNot, allV, g1, g2, gc1, gc2, Sl.get, okV, gNm, gUnp, gUnpL, gsNil, gsCons,  fSeq, fRng1, fRng2, fEnum, fComp, fYes, CT.put, setAll, wipeE, fMeth, isLst, lstAt, appendG, extendG, popG, popAtG, reverseG, countG, fNo, fPart, fSl, slF, revF, addF, subF, mulF, fdivF, modF, powF, ordF, negF, isNonF, isF, absF, max2F, min2F, int1F, lenF, listF, tupleF, sumF, maxF, minF, ixF,  gSubF, setL, sPar, sAug, runC, lift, pureOf, getAll, allVB, D.nol, D.nolL, startE, isiF, seqOf, fRgA, fRgB, rgL, rgT, fTru, truB, gUnpA, fRng3, fZip, zipF, fRev, imulF, ifdivF, fMeth2, isTup, countTG, seqA, seqInts, sumA, maxA, minA, fLenSet, tyName, clsL, clsNm, isiB, eqF_int, neF_int, eqF_ints, neF_ints, eqF_intsT, neF_intsT, nz, j1, hg]
          | succ c =>
            have j2 := i2 c
            simp at hg j1 j2
            simp [b__law_is_shape_1, bind_ok, bind_exc, st_ok, st_exc, seq_nx, seq_rt, seq_bk, seq_ct, seq_exc, turn_nx, turn_ct, turn_bk, turn_rt, turn_exc, mk_true, mk_false, runS_rt, runS_nx, runS_exc, forL_nil, get_off, get_off0, set_off, set_off0, take_len,  sSeq, sIf, sSkip, sRet, sDrop, sAsg, sFor, sGhost, tFreeze, fTest, fBin, fUn, fCall, fCons, fNil, fVar, fC, fAnd, fOr, fNot, fIf, fLst, fTup, fChain, fAndV, fOrV, gNot, allV, g1, g2, gc1, gc2, Sl.get, okV, gNm, gUnp, gUnpL, gsNil, gsCons,  fSeq, fRng1, fRng2, fEnum, fComp, fYes, CT.put, setAll, wipeE, fMeth, isLst, lstAt, appendG, extendG, popG, popAtG, reverseG, countG, fNo, fPart, fSl, slF, revF, addF, subF, mulF, fdivF, modF, powF, ordF, negF, isNonF, isF, absF, max2F, min2F, int1F, lenF, listF, tupleF, sumF, maxF, minF, ixF,  gSubF, setL, sPar, sAug, runC, lift, pureOf, getAll, allVB, D.nol, D.nolL, startE, isiF, seqOf, fRgA, fRgB, rgL, rgT, fTru, truB, gUnpA, fRng3, fZip, zipF, fRev, imulF, ifdivF, fMeth2, isTup, countTG, seqA, seqInts, sumA, maxA, minA, fLenSet, tyName, clsL, clsNm, isiB, eqF_int, neF_int, eqF_ints, neF_ints, eqF_intsT, neF_intsT, nz, j1, j2, hg]
      · cases r with
        | zero =>
          cases c with
          | zero => simp at hg
          | succ c =>
            have j2 := i2 c
            simp at hg j2
            simp [b__law_is_shape_1, bind_ok, bind_exc, st_ok, st_exc, seq_nx, seq_rt, seq_bk, seq_ct, seq_exc, turn_nx, turn_ct, turn_bk, turn_rt, turn_exc, mk_true, mk_false, runS_rt, runS_nx, runS_exc, forL_nil, get_off, get_off0, set_off, set_off0, take_len,  sSeq, sIf, sSkip, sRet, sDrop, sAsg, sFor, sGhost, tFreeze, fTest, fBin, fUn, fCall, fCons, fNil, fVar, fC, fAnd, fOr, fNot, fIf, fLst, fTup, fChain, fAndV, fOrV, gNot, allV, g1, g2, gc1, gc2, Sl.get, okV, gNm, gUnp, gUnpL, gsNil, gsCons,  fSeq, fRng1, fRng2, fEnum, fComp, fYes, CT.put, setAll, wipeE, fMeth, isLst, lstAt, appendG, extendG, popG, popAtG, reverseG, countG, fNo, fPart, fSl, slF, revF, addF, subF, mulF, fdivF, modF, powF, ordF, negF, isNonF, isF, absF, max2F, min2F, int1F, lenF, listF, tupleF, sumF, maxF, minF, ixF,  gSubF, setL, sPar, sAug, runC, lift, pureOf, getAll, allVB, D.nol, D.nolL, startE, isiF, seqOf, fRgA, fRgB, rgL, rgT, fTru, truB, gUnpA, fRng3, fZip, zipF, fRev, imulF, ifdivF, fMeth2, isTup, countTG, seqA, seqInts, sumA, maxA, minA, fLenSet, tyName, clsL, clsNm, isiB, eqF_int, neF_int, eqF_ints, neF_ints, eqF_intsT, neF_intsT, nz, j2, hg]
        | succ r =>
          have j1 := i1 r
          cases c with
          | zero =>
            simp at hg j1
            simp [b__law_is_shape_1, bind_ok, bind_exc, st_ok, st_exc, seq_nx, seq_rt, seq_bk, seq_ct, seq_exc, turn_nx, turn_ct, turn_bk, turn_rt, turn_exc, mk_true, mk_false, runS_rt, runS_nx, runS_exc, forL_nil, get_off, get_off0, set_off, set_off0, take_len,  sSeq, sIf, sSkip, sRet, sDrop, sAsg, sFor, sGhost, tFreeze, fTest, fBin, fUn, fCall, fCons, fNil, fVar, fC, fAnd, fOr, fNot, fIf, fLst, fTup, fChain, fAndV, fOrV, gNot, allV, g1, g2, gc1, gc2, Sl.get, okV, gNm, gUnp, gUnpL, gsNil, gsCons,  fSeq, fRng1, fRng2, fEnum, fComp, fYes, CT.put, setAll, wipeE, fMeth, isLst, lstAt, appendG, extendG, popG, popAtG, reverseG, countG, fNo, fPart, fSl, slF, revF, addF, subF, mulF, fdivF, modF, powF, ordF, negF, isNonF, isF, absF, max2F, min2F, int1F, lenF, listF, tupleF, sumF, maxF, minF, ixF,  gSubF, setL, sPar, sAug, runC, lift, pureOf, getAll, allVB, D.nol, D.nolL, startE, isiF, seqOf, fRgA, fRgB, rgL, rgT, fTru, truB, gUnpA, fRng3, fZip, zipF, fRev, imulF, ifdivF, fMeth2, isTup, countTG, seqA, seqInts, sumA, maxA, minA, fLenSet, tyName, clsL, clsNm, isiB, eqF_int, neF_int, eqF_ints, neF_ints, eqF_intsT, neF_intsT, nz, j1, hg]
          | succ c =>
            have j2 := i2 c
            simp at hg j1 j2
            by_cases q : (r, c + 1) ∈ bs
            · simp [b__law_is_shape_1, bind_ok, bind_exc, st_ok, st_exc, seq_nx, seq_rt, seq_bk, seq_ct, seq_exc, turn_nx, turn_ct, turn_bk, turn_rt, turn_exc, mk_true, mk_false, runS_rt, runS_nx, runS_exc, forL_nil, get_off, get_off0, set_off, set_off0, take_len,  sSeq, sIf, sSkip, sRet, sDrop, sAsg, sFor, sGhost, tFreeze, fTest, fBin, fUn, fCall, fCons, fNil, fVar, fC, fAnd, fOr, fNot, fIf, fLst, fTup, fChain, fAndV, fOrV, gNot, allV, g1, g2, gc1, gc2, Sl.get, okV, gNm, gUnp, gUnpL, gsNil, gsCons,  fSeq, fRng1, fRng2, fEnum, fComp, fYes, CT.put, setAll, wipeE, fMeth, isLst, lstAt, appendG, extendG, popG, popAtG, reverseG, countG, fNo, fPart, fSl, slF, revF, addF, subF, mulF, fdivF, modF, powF, ordF, negF, isNonF, isF, absF, max2F, min2F, int1F, lenF, listF, tupleF, sumF, maxF, minF, ixF,  gSubF, setL, sPar, sAug, runC, lift, pureOf, getAll, allVB, D.nol, D.nolL, startE, isiF, seqOf, fRgA, fRgB, rgL, rgT, fTru, truB, gUnpA, fRng3, fZip, zipF, fRev, imulF, ifdivF, fMeth2, isTup, countTG, seqA, seqInts, sumA, maxA, minA, fLenSet, tyName, clsL, clsNm, isiB, eqF_int, neF_int, eqF_ints, neF_ints, eqF_intsT, neF_intsT, nz, j1, j2, q, hg q]
            · simp [b__law_is_shape_1, bind_ok, bind_exc, st_ok, st_exc, seq_nx, seq_rt, seq_bk, seq_ct, seq_exc, turn_nx, turn_ct, turn_bk, turn_rt, turn_exc, mk_true, mk_false, runS_rt, runS_nx, runS_exc, forL_nil, get_off, get_off0, set_off, set_off0, take_len,  sSeq, sIf, sSkip, sRet, sDrop, sAsg, sFor, sGhost, tFreeze, fTest, fBin, fUn, fCall, fCons, fNil, fVar, fC, fAnd, fOr, fNot, fIf, fLst, fTup, fChain, fAndV, fOrV, gNot, allV, g1, g2, gc1, gc2, Sl.get, okV, gNm, gUnp, gUnpL, gsNil, gsCons,  fSeq, fRng1, fRng2, fEnum, fComp, fYes, CT.put, setAll, wipeE, fMeth, isLst, lstAt, appendG, extendG, popG, popAtG, reverseG, countG, fNo, fPart, fSl, slF, revF, addF, subF, mulF, fdivF, modF, powF, ordF, negF, isNonF, isF, absF, max2F, min2F, int1F, lenF, listF, tupleF, sumF, maxF, minF, ixF,  gSubF, setL, sPar, sAug, runC, lift, pureOf, getAll, allVB, D.nol, D.nolL, startE, isiF, seqOf, fRgA, fRgB, rgL, rgT, fTru, truB, gUnpA, fRng3, fZip, zipF, fRev, imulF, ifdivF, fMeth2, isTup, countTG, seqA, seqInts, sumA, maxA, minA, fLenSet, tyName, clsL, clsNm, isiB, eqF_int, neF_int, eqF_ints, neF_ints, eqF_intsT, neF_intsT, nz, j1, j2, q])
  simp only [m__law_is_shape, b__law_is_shape]
  cases q : isShape bs with
  | true =>
    obtain ⟨ρ', μ', e, o1, o2, rfl, rfl⟩ := l.1 q
    simp [bind_ok, bind_exc, st_ok, st_exc, seq_nx, seq_rt, seq_bk, seq_ct, seq_exc, turn_nx, turn_ct, turn_bk, turn_rt, turn_exc, mk_true, mk_false, runS_rt, runS_nx, runS_exc, forL_nil, get_off, get_off0, set_off, set_off0, take_len,  sSeq, sIf, sSkip, sRet, sDrop, sAsg, sFor, sGhost, tFreeze, fTest, fBin, fUn, fCall, fCons, fNil, fVar, fC, fAnd, fOr, fNot, fIf, fLst, fTup, fChain, fAndV, fOrV, gNot, allV, g1, g2, gc1, gc2, Sl.get, okV, gNm, gUnp, gUnpL, gsNil, gsCons,  fSeq, fRng1, fRng2, fEnum, fComp, fYes, CT.put, setAll, wipeE, fMeth, isLst, lstAt, appendG, extendG, popG, popAtG, reverseG, countG, fNo, fPart, fSl, slF, revF, addF, subF, mulF, fdivF, modF, powF, ordF, negF, isNonF, isF, absF, max2F, min2F, int1F, lenF, listF, tupleF, sumF, maxF, minF, ixF,  gSubF, setL, sPar, sAug, runC, lift, pureOf, getAll, allVB, D.nol, D.nolL, startE, isiF, seqOf, fRgA, fRgB, rgL, rgT, fTru, truB, gUnpA, fRng3, fZip, zipF, fRev, imulF, ifdivF, fMeth2, isTup, countTG, seqA, seqInts, sumA, maxA, minA, fLenSet, tyName, clsL, clsNm, isiB, eqF_int, neF_int, eqF_ints, neF_ints, eqF_intsT, neF_intsT, e]
  | false =>
    obtain ⟨ρ', μ', e⟩ := l.2 q
    simp [bind_ok, bind_exc, st_ok, st_exc, seq_nx, seq_rt, seq_bk, seq_ct, seq_exc, turn_nx, turn_ct, turn_bk, turn_rt, turn_exc, mk_true, mk_false, runS_rt, runS_nx, runS_exc, forL_nil, get_off, get_off0, set_off, set_off0, take_len,  sSeq, sIf, sSkip, sRet, sDrop, sAsg, sFor, sGhost, tFreeze, fTest, fBin, fUn, fCall, fCons, fNil, fVar, fC, fAnd, fOr, fNot, fIf, fLst, fTup, fChain, fAndV, fOrV, gNot, allV, g1, g2, gc1, gc2, Sl.get, okV, gNm, gUnp, gUnpL, gsNil, gsCons,  fSeq, fRng1, fRng2, fEnum, fComp, fYes, CT.put, setAll, wipeE, fMeth, isLst, lstAt, appendG, extendG, popG, popAtG, reverseG, countG, fNo, fPart, fSl, slF, revF, addF, subF, mulF, fdivF, modF, powF, ordF, negF, isNonF, isF, absF, max2F, min2F, int1F, lenF, listF, tupleF, sumF, maxF, minF, ixF,  gSubF, setL, sPar, sAug, runC, lift, pureOf, getAll, allVB, D.nol, D.nolL, startE, isiF, seqOf, fRgA, fRgB, rgL, rgT, fTru, truB, gUnpA, fRng3, fZip, zipF, fRev, imulF, ifdivF, fMeth2, isTup, countTG, seqA, seqInts, sumA, maxA, minA, fLenSet, tyName, clsL, clsNm, isiB, eqF_int, neF_int, eqF_ints, neF_ints, eqF_intsT, neF_intsT, e]
/-! one box more, one less -/
def xS (s : Str) : Exc := ⟨"InvalidShape", ["what"], [.str s]⟩
theorem len_row : ("row" : Str).length ≤ 1000000 := by decide +kernel
theorem mem_addable (p : List Nat) (r : Nat) : (addable p).contains r = canAdd p r := by
  rw [Bool.eq_iff_iff, List.contains_iff_mem]
  simp only [addable, List.mem_filter, List.mem_range]
  exact ⟨fun h => h.2, fun h => ⟨by have := canAdd_le h; omega, h⟩⟩
theorem mem_removable (p : List Nat) (r : Nat) : (removable p).contains r = canRem p r := by
  rw [Bool.eq_iff_iff, List.contains_iff_mem]
  simp only [removable, List.mem_filter, List.mem_range]
  exact ⟨fun h => h.2, fun h => ⟨canRem_lt h, h⟩⟩
theorem cut_take (p : List Nat) (r : Nat) : cutD (p.map nD) none (some (r : Int)) = (p.take r).map nD := by
  rw [cut_hi rfl, List.map_take]
theorem cut_drop (p : List Nat) (r : Nat) : cutD (p.map nD) (some ((r : Int) + 1)) none = (p.drop (r + 1)).map nD := by
  rw [cut_lo (k := r + 1) (by omega), List.map_drop]
theorem add_ok {p : List Nat} (h : PS p) {r : Nat} (c : canAdd p r = true) (μ : Store) : m_added [.v (Tq p), .v (.int r)] μ = .ok (.v (Tq (addP p r))) μ := by
  have e1 := addable_eq h []
  have e2 := inF_nats true (r : Int) (addable p) []
  rw [any_nat, mem_addable, c] at e2
  have e3 := part_eq p r []
  have e4 := cut_take p r
  have e5 := cut_drop p r
  have hr := canAdd_le c
  have hl := h.len
  have l1 : min r p.length + 1 ≤ lim := by rw [hlim]; omega
  have l2 : min r p.length + 1 + (p.length - (r + 1)) ≤ lim := by rw [hlim]; omega
  simp only [m_added, b_added]
  simp at e2
  simp [bind_ok, bind_exc, st_ok, st_exc, seq_nx, seq_rt, seq_bk, seq_ct, seq_exc, turn_nx, turn_ct, turn_bk, turn_rt, turn_exc, mk_true, mk_false, runS_rt, runS_nx, runS_exc, forL_nil, get_off, get_off0, set_off, set_off0, take_len,  sSeq, sIf, sSkip, sRet, sDrop, sAsg, sFor, sGhost, tFreeze, fTest, fBin, fUn, fCall, fCons, fNil, fVar, fC, fAnd, fOr, fNot, fIf, fLst, fTup, fChain, fAndV, fOrV, gNot, allV, g1, g2, gc1, gc2, Sl.get, okV, gNm, gUnp, gUnpL, gsNil, gsCons,  fSeq, fRng1, fRng2, fEnum, fComp, fYes, CT.put, setAll, wipeE, fMeth, isLst, lstAt, appendG, extendG, popG, popAtG, reverseG, countG, fNo, fPart, fSl, slF, revF, addF, subF, mulF, fdivF, modF, powF, ordF, negF, isNonF, isF, absF, max2F, min2F, int1F, lenF, listF, tupleF, sumF, maxF, minF, ixF,  gSubF, setL, sPar, sAug, runC, lift, pureOf, getAll, allVB, D.nol, D.nolL, startE, isiF, seqOf, fRgA, fRgB, rgL, rgT, fTru, truB, gUnpA, fRng3, fZip, zipF, fRev, imulF, ifdivF, fMeth2, isTup, countTG, seqA, seqInts, sumA, maxA, minA, fLenSet, tyName, clsL, clsNm, isiB, eqF_int, neF_int, eqF_ints, neF_ints, eqF_intsT, neF_intsT, e1, e2, e3, e4, e5, l1, l2, addP]
theorem add_no {p : List Nat} (h : PS p) {x : Int} (c : ((addable p).any fun y => decide ((y : Int) = x)) = false) (μ : Store) : m_added [.v (Tq p), .v (.int x)] μ = .exc (xS "row") μ := by
  have e1 := addable_eq h []
  have e2 := inF_nats true x (addable p) []
  rw [c] at e2
  simp only [m_added, b_added]
  simp at e2
  simp [bind_ok, bind_exc, st_ok, st_exc, seq_nx, seq_rt, seq_bk, seq_ct, seq_exc, turn_nx, turn_ct, turn_bk, turn_rt, turn_exc, mk_true, mk_false, runS_rt, runS_nx, runS_exc, forL_nil, get_off, get_off0, set_off, set_off0, take_len,  sSeq, sIf, sSkip, sRet, sDrop, sAsg, sFor, sGhost, tFreeze, fTest, fBin, fUn, fCall, fCons, fNil, fVar, fC, fAnd, fOr, fNot, fIf, fLst, fTup, fChain, fAndV, fOrV, gNot, allV, g1, g2, gc1, gc2, Sl.get, okV, gNm, gUnp, gUnpL, gsNil, gsCons,  fSeq, fRng1, fRng2, fEnum, fComp, fYes, CT.put, setAll, wipeE, fMeth, isLst, lstAt, appendG, extendG, popG, popAtG, reverseG, countG, fNo, fPart, fSl, slF, revF, addF, subF, mulF, fdivF, modF, powF, ordF, negF, isNonF, isF, absF, max2F, min2F, int1F, lenF, listF, tupleF, sumF, maxF, minF, ixF,  gSubF, setL, sPar, sAug, runC, lift, pureOf, getAll, allVB, D.nol, D.nolL, startE, isiF, seqOf, fRgA, fRgB, rgL, rgT, fTru, truB, gUnpA, fRng3, fZip, zipF, fRev, imulF, ifdivF, fMeth2, isTup, countTG, seqA, seqInts, sumA, maxA, minA, fLenSet, tyName, clsL, clsNm, isiB, eqF_int, neF_int, eqF_ints, neF_ints, eqF_intsT, neF_intsT, e1, e2, sRaise, len_row, xS, D.nolL]
theorem rem_ok {p : List Nat} (h : PS p) {r : Nat} (c : canRem p r = true) (μ : Store) : m_removed [.v (Tq p), .v (.int r)] μ = .ok (.v (Tq (remP p r))) μ := by
  have e1 := removable_eq h []
  have e2 := inF_nats true (r : Int) (removable p) []
  rw [any_nat, mem_removable, c] at e2
  have hr := canRem_lt c
  have e3 := atI_nat p r hr
  have e4 := cut_take p r
  have e5 := cut_drop p r
  have hl := h.len
  have l1 : min r p.length + 1 ≤ lim := by rw [hlim]; omega
  have l2 : min r p.length + 1 + (p.length - (r + 1)) ≤ lim := by rw [hlim]; omega
  have hp : 1 ≤ pt p r := (pt_pos h.par).mpr hr
  simp only [m_removed, b_removed]
  simp at e2
  by_cases q : pt p r = 1
  · have q2 : ((pt p r : Nat) : Int) = 1 := by omega
    simp [bind_ok, bind_exc, st_ok, st_exc, seq_nx, seq_rt, seq_bk, seq_ct, seq_exc, turn_nx, turn_ct, turn_bk, turn_rt, turn_exc, mk_true, mk_false, runS_rt, runS_nx, runS_exc, forL_nil, get_off, get_off0, set_off, set_off0, take_len,  sSeq, sIf, sSkip, sRet, sDrop, sAsg, sFor, sGhost, tFreeze, fTest, fBin, fUn, fCall, fCons, fNil, fVar, fC, fAnd, fOr, fNot, fIf, fLst, fTup, fChain, fAndV, fOrV, gNot, allV, g1, g2, gc1, gc2, Sl.get, okV, gNm, gUnp, gUnpL, gsNil, gsCons,  fSeq, fRng1, fRng2, fEnum, fComp, fYes, CT.put, setAll, wipeE, fMeth, isLst, lstAt, appendG, extendG, popG, popAtG, reverseG, countG, fNo, fPart, fSl, slF, revF, addF, subF, mulF, fdivF, modF, powF, ordF, negF, isNonF, isF, absF, max2F, min2F, int1F, lenF, listF, tupleF, sumF, maxF, minF, ixF,  gSubF, setL, sPar, sAug, runC, lift, pureOf, getAll, allVB, D.nol, D.nolL, startE, isiF, seqOf, fRgA, fRgB, rgL, rgT, fTru, truB, gUnpA, fRng3, fZip, zipF, fRev, imulF, ifdivF, fMeth2, isTup, countTG, seqA, seqInts, sumA, maxA, minA, fLenSet, tyName, clsL, clsNm, isiB, eqF_int, neF_int, eqF_ints, neF_ints, eqF_intsT, neF_intsT, e1, e2, e3, e4, q, q2, remP]
  · have q2 : ¬ ((pt p r : Nat) : Int) = 1 := by omega
    have q3 : ((pt p r : Nat) : Int) - 1 = ((pt p r - 1 : Nat) : Int) := by omega
    simp [bind_ok, bind_exc, st_ok, st_exc, seq_nx, seq_rt, seq_bk, seq_ct, seq_exc, turn_nx, turn_ct, turn_bk, turn_rt, turn_exc, mk_true, mk_false, runS_rt, runS_nx, runS_exc, forL_nil, get_off, get_off0, set_off, set_off0, take_len,  sSeq, sIf, sSkip, sRet, sDrop, sAsg, sFor, sGhost, tFreeze, fTest, fBin, fUn, fCall, fCons, fNil, fVar, fC, fAnd, fOr, fNot, fIf, fLst, fTup, fChain, fAndV, fOrV, gNot, allV, g1, g2, gc1, gc2, Sl.get, okV, gNm, gUnp, gUnpL, gsNil, gsCons,  fSeq, fRng1, fRng2, fEnum, fComp, fYes, CT.put, setAll, wipeE, fMeth, isLst, lstAt, appendG, extendG, popG, popAtG, reverseG, countG, fNo, fPart, fSl, slF, revF, addF, subF, mulF, fdivF, modF, powF, ordF, negF, isNonF, isF, absF, max2F, min2F, int1F, lenF, listF, tupleF, sumF, maxF, minF, ixF,  gSubF, setL, sPar, sAug, runC, lift, pureOf, getAll, allVB, D.nol, D.nolL, startE, isiF, seqOf, fRgA, fRgB, rgL, rgT, fTru, truB, gUnpA, fRng3, fZip, zipF, fRev, imulF, ifdivF, fMeth2, isTup, countTG, seqA, seqInts, sumA, maxA, minA, fLenSet, tyName, clsL, clsNm, isiB, eqF_int, neF_int, eqF_ints, neF_ints, eqF_intsT, neF_intsT, e1, e2, e3, e4, e5, l1, l2, q, q2, q3, remP]
theorem rem_no {p : List Nat} (h : PS p) {x : Int} (c : ((removable p).any fun y => decide ((y : Int) = x)) = false) (μ : Store) : m_removed [.v (Tq p), .v (.int x)] μ = .exc (xS "row") μ := by
  have e1 := removable_eq h []
  have e2 := inF_nats true x (removable p) []
  rw [c] at e2
  simp only [m_removed, b_removed]
  simp at e2
  simp [bind_ok, bind_exc, st_ok, st_exc, seq_nx, seq_rt, seq_bk, seq_ct, seq_exc, turn_nx, turn_ct, turn_bk, turn_rt, turn_exc, mk_true, mk_false, runS_rt, runS_nx, runS_exc, forL_nil, get_off, get_off0, set_off, set_off0, take_len,  sSeq, sIf, sSkip, sRet, sDrop, sAsg, sFor, sGhost, tFreeze, fTest, fBin, fUn, fCall, fCons, fNil, fVar, fC, fAnd, fOr, fNot, fIf, fLst, fTup, fChain, fAndV, fOrV, gNot, allV, g1, g2, gc1, gc2, Sl.get, okV, gNm, gUnp, gUnpL, gsNil, gsCons,  fSeq, fRng1, fRng2, fEnum, fComp, fYes, CT.put, setAll, wipeE, fMeth, isLst, lstAt, appendG, extendG, popG, popAtG, reverseG, countG, fNo, fPart, fSl, slF, revF, addF, subF, mulF, fdivF, modF, powF, ordF, negF, isNonF, isF, absF, max2F, min2F, int1F, lenF, listF, tupleF, sumF, maxF, minF, ixF,  gSubF, setL, sPar, sAug, runC, lift, pureOf, getAll, allVB, D.nol, D.nolL, startE, isiF, seqOf, fRgA, fRgB, rgL, rgT, fTru, truB, gUnpA, fRng3, fZip, zipF, fRev, imulF, ifdivF, fMeth2, isTup, countTG, seqA, seqInts, sumA, maxA, minA, fLenSet, tyName, clsL, clsNm, isiB, eqF_int, neF_int, eqF_ints, neF_ints, eqF_intsT, neF_intsT, e1, e2, sRaise, len_row, xS, D.nolL]
/-! tried -/
abbrev invD (s : Str) : D := .tup [.str "invalid", .str s]
theorem what_S (s : Str) : (xS s).what = some (.str s) := rfl
theorem contains_eq (p q : List Nat) (hp : PS p) (hq : PS q) (μ : Store) : m_contains [.v (Tq p), .v (Tq q)] μ = .ok (.v (.bl (contains p q))) μ := by
  have hl := hq.len
  have hs : q.length < 2305843009213693952 := by omega
  have r0 := rangeD0 q.length
  simp only [m_contains, b_contains]
  by_cases h : q.length ≤ p.length
  · have h' : ¬ (p.length < q.length) := by omega
    have l := forL_allR (enc := fun i : Nat => D.int i) (tg := gNm 2) (body := b_contains_1) (fun ρ μ => ∃ o, ρ = [some (.v (Tq p)), some (.v (Tq q)), o] ∧ μ = [])
      (fun r => decide (pt q r ≤ pt p r)) (.v (.bl false)) (List.range q.length) [some (.v (Tq p)), some (.v (Tq q)), none] [] ⟨none, rfl, rfl⟩ (fun r m ρ μ hI => by
        obtain ⟨o, rfl, rfl⟩ := hI
        have m := List.mem_range.mp m
        have e1 := atI_nat q r m
        have e2 := atI_nat p r (by omega)
        refine ⟨[some (.v (Tq p)), some (.v (Tq q)), some (.v (.int (r : Nat)))], [], by simp [bind_ok, bind_exc, st_ok, st_exc, seq_nx, seq_rt, seq_bk, seq_ct, seq_exc, turn_nx, turn_ct, turn_bk, turn_rt, turn_exc, mk_true, mk_false, runS_rt, runS_nx, runS_exc, forL_nil, get_off, get_off0, set_off, set_off0, take_len,  sSeq, sIf, sSkip, sRet, sDrop, sAsg, sFor, sGhost, tFreeze, fTest, fBin, fUn, fCall, fCons, fNil, fVar, fC, fAnd, fOr, fNot, fIf, fLst, fTup, fChain, fAndV, fOrV, gNot, allV, g1, g2, gc1, gc2, Sl.get, okV, gNm, gUnp, gUnpL, gsNil, gsCons,  fSeq, fRng1, fRng2, fEnum, fComp, fYes, CT.put, setAll, wipeE, fMeth, isLst, lstAt, appendG, extendG, popG, popAtG, reverseG, countG, fNo, fPart, fSl, slF, revF, addF, subF, mulF, fdivF, modF, powF, ordF, negF, isNonF, isF, absF, max2F, min2F, int1F, lenF, listF, tupleF, sumF, maxF, minF, ixF,  gSubF, setL, sPar, sAug, runC, lift, pureOf, getAll, allVB, D.nol, D.nolL, startE, isiF, seqOf, fRgA, fRgB, rgL, rgT, fTru, truB, gUnpA, fRng3, fZip, zipF, fRev, imulF, ifdivF, fMeth2, isTup, countTG, seqA, seqInts, sumA, maxA, minA, fLenSet, tyName, clsL, clsNm, isiB, eqF_int, neF_int, eqF_ints, neF_ints, eqF_intsT, neF_intsT], fun hg => ⟨[some (.v (Tq p)), some (.v (Tq q)), some (.v (.int (r : Nat)))], [], ?_, _, rfl, rfl⟩, fun hg => ⟨[some (.v (Tq p)), some (.v (Tq q)), some (.v (.int (r : Nat)))], [], ?_⟩⟩
        · have hg : ¬ (pt p r < pt q r) := by simpa using hg
          simp [b_contains_1, bind_ok, bind_exc, st_ok, st_exc, seq_nx, seq_rt, seq_bk, seq_ct, seq_exc, turn_nx, turn_ct, turn_bk, turn_rt, turn_exc, mk_true, mk_false, runS_rt, runS_nx, runS_exc, forL_nil, get_off, get_off0, set_off, set_off0, take_len,  sSeq, sIf, sSkip, sRet, sDrop, sAsg, sFor, sGhost, tFreeze, fTest, fBin, fUn, fCall, fCons, fNil, fVar, fC, fAnd, fOr, fNot, fIf, fLst, fTup, fChain, fAndV, fOrV, gNot, allV, g1, g2, gc1, gc2, Sl.get, okV, gNm, gUnp, gUnpL, gsNil, gsCons,  fSeq, fRng1, fRng2, fEnum, fComp, fYes, CT.put, setAll, wipeE, fMeth, isLst, lstAt, appendG, extendG, popG, popAtG, reverseG, countG, fNo, fPart, fSl, slF, revF, addF, subF, mulF, fdivF, modF, powF, ordF, negF, isNonF, isF, absF, max2F, min2F, int1F, lenF, listF, tupleF, sumF, maxF, minF, ixF,  gSubF, setL, sPar, sAug, runC, lift, pureOf, getAll, allVB, D.nol, D.nolL, startE, isiF, seqOf, fRgA, fRgB, rgL, rgT, fTru, truB, gUnpA, fRng3, fZip, zipF, fRev, imulF, ifdivF, fMeth2, isTup, countTG, seqA, seqInts, sumA, maxA, minA, fLenSet, tyName, clsL, clsNm, isiB, eqF_int, neF_int, eqF_ints, neF_ints, eqF_intsT, neF_intsT, e1, e2, hg]
        · have hg : pt p r < pt q r := by simpa using hg
          simp [b_contains_1, bind_ok, bind_exc, st_ok, st_exc, seq_nx, seq_rt, seq_bk, seq_ct, seq_exc, turn_nx, turn_ct, turn_bk, turn_rt, turn_exc, mk_true, mk_false, runS_rt, runS_nx, runS_exc, forL_nil, get_off, get_off0, set_off, set_off0, take_len,  sSeq, sIf, sSkip, sRet, sDrop, sAsg, sFor, sGhost, tFreeze, fTest, fBin, fUn, fCall, fCons, fNil, fVar, fC, fAnd, fOr, fNot, fIf, fLst, fTup, fChain, fAndV, fOrV, gNot, allV, g1, g2, gc1, gc2, Sl.get, okV, gNm, gUnp, gUnpL, gsNil, gsCons,  fSeq, fRng1, fRng2, fEnum, fComp, fYes, CT.put, setAll, wipeE, fMeth, isLst, lstAt, appendG, extendG, popG, popAtG, reverseG, countG, fNo, fPart, fSl, slF, revF, addF, subF, mulF, fdivF, modF, powF, ordF, negF, isNonF, isF, absF, max2F, min2F, int1F, lenF, listF, tupleF, sumF, maxF, minF, ixF,  gSubF, setL, sPar, sAug, runC, lift, pureOf, getAll, allVB, D.nol, D.nolL, startE, isiF, seqOf, fRgA, fRgB, rgL, rgT, fTru, truB, gUnpA, fRng3, fZip, zipF, fRev, imulF, ifdivF, fMeth2, isTup, countTG, seqA, seqInts, sumA, maxA, minA, fLenSet, tyName, clsL, clsNm, isiB, eqF_int, neF_int, eqF_ints, neF_ints, eqF_intsT, neF_intsT, e1, e2, hg])
    have hc : contains p q = (List.range q.length).all fun r => decide (pt q r ≤ pt p r) := by simp [contains, h]
    rw [hc]
    cases w : (List.range q.length).all fun r => decide (pt q r ≤ pt p r) with
    | true =>
      obtain ⟨ρ', μ', e, o1, rfl, rfl⟩ := l.1 w
      simp [bind_ok, bind_exc, st_ok, st_exc, seq_nx, seq_rt, seq_bk, seq_ct, seq_exc, turn_nx, turn_ct, turn_bk, turn_rt, turn_exc, mk_true, mk_false, runS_rt, runS_nx, runS_exc, forL_nil, get_off, get_off0, set_off, set_off0, take_len,  sSeq, sIf, sSkip, sRet, sDrop, sAsg, sFor, sGhost, tFreeze, fTest, fBin, fUn, fCall, fCons, fNil, fVar, fC, fAnd, fOr, fNot, fIf, fLst, fTup, fChain, fAndV, fOrV, gNot, allV, g1, g2, gc1, gc2, Sl.get, okV, gNm, gUnp, gUnpL, gsNil, gsCons,  fSeq, fRng1, fRng2, fEnum, fComp, fYes, CT.put, setAll, wipeE, fMeth, isLst, lstAt, appendG, extendG, popG, popAtG, reverseG, countG, fNo, fPart, fSl, slF, revF, addF, subF, mulF, fdivF, modF, powF, ordF, negF, isNonF, isF, absF, max2F, min2F, int1F, lenF, listF, tupleF, sumF, maxF, minF, ixF,  gSubF, setL, sPar, sAug, runC, lift, pureOf, getAll, allVB, D.nol, D.nolL, startE, isiF, seqOf, fRgA, fRgB, rgL, rgT, fTru, truB, gUnpA, fRng3, fZip, zipF, fRev, imulF, ifdivF, fMeth2, isTup, countTG, seqA, seqInts, sumA, maxA, minA, fLenSet, tyName, clsL, clsNm, isiB, eqF_int, neF_int, eqF_ints, neF_ints, eqF_intsT, neF_intsT, h', hs, r0, e]
    | false =>
      obtain ⟨ρ', μ', e⟩ := l.2 w
      simp [bind_ok, bind_exc, st_ok, st_exc, seq_nx, seq_rt, seq_bk, seq_ct, seq_exc, turn_nx, turn_ct, turn_bk, turn_rt, turn_exc, mk_true, mk_false, runS_rt, runS_nx, runS_exc, forL_nil, get_off, get_off0, set_off, set_off0, take_len,  sSeq, sIf, sSkip, sRet, sDrop, sAsg, sFor, sGhost, tFreeze, fTest, fBin, fUn, fCall, fCons, fNil, fVar, fC, fAnd, fOr, fNot, fIf, fLst, fTup, fChain, fAndV, fOrV, gNot, allV, g1, g2, gc1, gc2, Sl.get, okV, gNm, gUnp, gUnpL, gsNil, gsCons,  fSeq, fRng1, fRng2, fEnum, fComp, fYes, CT.put, setAll, wipeE, fMeth, isLst, lstAt, appendG, extendG, popG, popAtG, reverseG, countG, fNo, fPart, fSl, slF, revF, addF, subF, mulF, fdivF, modF, powF, ordF, negF, isNonF, isF, absF, max2F, min2F, int1F, lenF, listF, tupleF, sumF, maxF, minF, ixF,  gSubF, setL, sPar, sAug, runC, lift, pureOf, getAll, allVB, D.nol, D.nolL, startE, isiF, seqOf, fRgA, fRgB, rgL, rgT, fTru, truB, gUnpA, fRng3, fZip, zipF, fRev, imulF, ifdivF, fMeth2, isTup, countTG, seqA, seqInts, sumA, maxA, minA, fLenSet, tyName, clsL, clsNm, isiB, eqF_int, neF_int, eqF_ints, neF_ints, eqF_intsT, neF_intsT, h', hs, r0, e]
  · have h' : p.length < q.length := by omega
    have hc : contains p q = false := by simp [contains, h]
    rw [hc]
    simp [bind_ok, bind_exc, st_ok, st_exc, seq_nx, seq_rt, seq_bk, seq_ct, seq_exc, turn_nx, turn_ct, turn_bk, turn_rt, turn_exc, mk_true, mk_false, runS_rt, runS_nx, runS_exc, forL_nil, get_off, get_off0, set_off, set_off0, take_len,  sSeq, sIf, sSkip, sRet, sDrop, sAsg, sFor, sGhost, tFreeze, fTest, fBin, fUn, fCall, fCons, fNil, fVar, fC, fAnd, fOr, fNot, fIf, fLst, fTup, fChain, fAndV, fOrV, gNot, allV, g1, g2, gc1, gc2, Sl.get, okV, gNm, gUnp, gUnpL, gsNil, gsCons,  fSeq, fRng1, fRng2, fEnum, fComp, fYes, CT.put, setAll, wipeE, fMeth, isLst, lstAt, appendG, extendG, popG, popAtG, reverseG, countG, fNo, fPart, fSl, slF, revF, addF, subF, mulF, fdivF, modF, powF, ordF, negF, isNonF, isF, absF, max2F, min2F, int1F, lenF, listF, tupleF, sumF, maxF, minF, ixF,  gSubF, setL, sPar, sAug, runC, lift, pureOf, getAll, allVB, D.nol, D.nolL, startE, isiF, seqOf, fRgA, fRgB, rgL, rgT, fTru, truB, gUnpA, fRng3, fZip, zipF, fRev, imulF, ifdivF, fMeth2, isTup, countTG, seqA, seqInts, sumA, maxA, minA, fLenSet, tyName, clsL, clsNm, isiB, eqF_int, neF_int, eqF_ints, neF_ints, eqF_intsT, neF_intsT, h']
/-! partition_of -/
def goodAt (xs : List Int) (r : Nat) : Bool := !(decide (xs.getD r 0 < 1) || (decide (0 < r) && decide (xs.getD (r - 1) 0 < xs.getD r 0)))
def allGood (xs : List Int) : Bool := (List.range xs.length).all (goodAt xs)
abbrev Li (xs : List Int) : D := .lst (xs.map .int)
abbrev Ti (xs : List Int) : D := .tup (xs.map .int)
def xP (s : Str) : Exc := ⟨"InvalidPartition", ["what"], [.str s]⟩
theorem len_parts : ("parts" : Str).length ≤ 1000000 := by decide +kernel
theorem atI_int (xs : List Int) (r : Nat) (h : r < xs.length) : atI (xs.map D.int) (r : Int) = some (.int (xs.getD r 0)) := by
  rw [atI_on D.int, List.getElem?_eq_getElem h]
  simp [h]
theorem of_eq (xs : List Int) (hl : xs.length ≤ 1000) (μ : Store) : m_partition_of [.v (Li xs)] μ = if allGood xs then .ok (.v (Ti xs)) μ else .exc (xP "parts") μ := by
  have hs : xs.length < 2305843009213693952 := by omega
  have r0 := rangeD0 xs.length
  have l := forL_allX (enc := fun i : Nat => D.int i) (tg := gNm 1) (body := b_partition_of_1) (fun ρ μ => ∃ o, ρ = [some (.v (Li xs)), o] ∧ μ = [])
    (goodAt xs) (xP "parts") (List.range xs.length) [some (.v (Li xs)), none] [] ⟨none, rfl, rfl⟩ (fun r m ρ μ hI => by
      obtain ⟨o, rfl, rfl⟩ := hI
      have m := List.mem_range.mp m
      have e1 := atI_int xs r m
      have lp := len_parts
      refine ⟨[some (.v (Li xs)), some (.v (.int (r : Nat)))], [], by simp [bind_ok, bind_exc, st_ok, st_exc, seq_nx, seq_rt, seq_bk, seq_ct, seq_exc, turn_nx, turn_ct, turn_bk, turn_rt, turn_exc, mk_true, mk_false, runS_rt, runS_nx, runS_exc, forL_nil, get_off, get_off0, set_off, set_off0, take_len,  sSeq, sIf, sSkip, sRet, sDrop, sAsg, sFor, sGhost, tFreeze, fTest, fBin, fUn, fCall, fCons, fNil, fVar, fC, fAnd, fOr, fNot, fIf, fLst, fTup, fChain, fAndV, fOrV, gNot, allV, g1, g2, gc1, gc2, Sl.get, okV, gNm, gUnp, gUnpL, gsNil, gsCons,  fSeq, fRng1, fRng2, fEnum, fComp, fYes, CT.put, setAll, wipeE, fMeth, isLst, lstAt, appendG, extendG, popG, popAtG, reverseG, countG, fNo, fPart, fSl, slF, revF, addF, subF, mulF, fdivF, modF, powF, ordF, negF, isNonF, isF, absF, max2F, min2F, int1F, lenF, listF, tupleF, sumF, maxF, minF, ixF,  gSubF, setL, sPar, sAug, runC, lift, pureOf, getAll, allVB, D.nol, D.nolL, startE, isiF, seqOf, fRgA, fRgB, rgL, rgT, fTru, truB, gUnpA, fRng3, fZip, zipF, fRev, imulF, ifdivF, fMeth2, isTup, countTG, seqA, seqInts, sumA, maxA, minA, fLenSet, tyName, clsL, clsNm, isiB, eqF_int, neF_int, eqF_ints, neF_ints, eqF_intsT, neF_intsT], fun hg => ⟨[some (.v (Li xs)), some (.v (.int (r : Nat)))], [], ?_, _, rfl, rfl⟩, fun hg => ⟨[some (.v (Li xs)), some (.v (.int (r : Nat)))], [], ?_⟩⟩
      all_goals
        unfold goodAt at hg
        by_cases q : xs.getD r 0 < 1
        · first
            | (simp only [q, decide_true, Bool.true_or, Bool.not_true] at hg; exact absurd hg (by decide))
            | (simp [b_partition_of_1, bind_ok, bind_exc, st_ok, st_exc, seq_nx, seq_rt, seq_bk, seq_ct, seq_exc, turn_nx, turn_ct, turn_bk, turn_rt, turn_exc, mk_true, mk_false, runS_rt, runS_nx, runS_exc, forL_nil, get_off, get_off0, set_off, set_off0, take_len,  sSeq, sIf, sSkip, sRet, sDrop, sAsg, sFor, sGhost, tFreeze, fTest, fBin, fUn, fCall, fCons, fNil, fVar, fC, fAnd, fOr, fNot, fIf, fLst, fTup, fChain, fAndV, fOrV, gNot, allV, g1, g2, gc1, gc2, Sl.get, okV, gNm, gUnp, gUnpL, gsNil, gsCons,  fSeq, fRng1, fRng2, fEnum, fComp, fYes, CT.put, setAll, wipeE, fMeth, isLst, lstAt, appendG, extendG, popG, popAtG, reverseG, countG, fNo, fPart, fSl, slF, revF, addF, subF, mulF, fdivF, modF, powF, ordF, negF, isNonF, isF, absF, max2F, min2F, int1F, lenF, listF, tupleF, sumF, maxF, minF, ixF,  gSubF, setL, sPar, sAug, runC, lift, pureOf, getAll, allVB, D.nol, D.nolL, startE, isiF, seqOf, fRgA, fRgB, rgL, rgT, fTru, truB, gUnpA, fRng3, fZip, zipF, fRev, imulF, ifdivF, fMeth2, isTup, countTG, seqA, seqInts, sumA, maxA, minA, fLenSet, tyName, clsL, clsNm, isiB, eqF_int, neF_int, eqF_ints, neF_ints, eqF_intsT, neF_intsT, e1, -List.getD_eq_getElem?_getD, q, sRaise, lp, xP])
        · cases r with
          | zero =>
            replace e1 : atI (xs.map D.int) 0 = some (D.int (xs.getD 0 0)) := e1
            first
              | (simp only [q, decide_false, Nat.lt_irrefl, Bool.false_or, Bool.false_and, Bool.not_false] at hg; exact absurd hg (by decide))
              | (simp [b_partition_of_1, bind_ok, bind_exc, st_ok, st_exc, seq_nx, seq_rt, seq_bk, seq_ct, seq_exc, turn_nx, turn_ct, turn_bk, turn_rt, turn_exc, mk_true, mk_false, runS_rt, runS_nx, runS_exc, forL_nil, get_off, get_off0, set_off, set_off0, take_len,  sSeq, sIf, sSkip, sRet, sDrop, sAsg, sFor, sGhost, tFreeze, fTest, fBin, fUn, fCall, fCons, fNil, fVar, fC, fAnd, fOr, fNot, fIf, fLst, fTup, fChain, fAndV, fOrV, gNot, allV, g1, g2, gc1, gc2, Sl.get, okV, gNm, gUnp, gUnpL, gsNil, gsCons,  fSeq, fRng1, fRng2, fEnum, fComp, fYes, CT.put, setAll, wipeE, fMeth, isLst, lstAt, appendG, extendG, popG, popAtG, reverseG, countG, fNo, fPart, fSl, slF, revF, addF, subF, mulF, fdivF, modF, powF, ordF, negF, isNonF, isF, absF, max2F, min2F, int1F, lenF, listF, tupleF, sumF, maxF, minF, ixF,  gSubF, setL, sPar, sAug, runC, lift, pureOf, getAll, allVB, D.nol, D.nolL, startE, isiF, seqOf, fRgA, fRgB, rgL, rgT, fTru, truB, gUnpA, fRng3, fZip, zipF, fRev, imulF, ifdivF, fMeth2, isTup, countTG, seqA, seqInts, sumA, maxA, minA, fLenSet, tyName, clsL, clsNm, isiB, eqF_int, neF_int, eqF_ints, neF_ints, eqF_intsT, neF_intsT, e1, -List.getD_eq_getElem?_getD, q])
          | succ r =>
            have e2 := atI_int xs r (by omega)
            have nz : (0 : Int) < (r : Int) + 1 := by omega
            replace e1 : atI (xs.map D.int) ((r : Int) + 1) = some (D.int (xs.getD (r + 1) 0)) := e1
            simp only [q, decide_false, Nat.zero_lt_succ, decide_true, Bool.false_or, Bool.true_and, Nat.add_sub_cancel, Bool.not_eq_true', Bool.not_eq_false', decide_eq_true_eq, decide_eq_false_iff_not] at hg
            simp [b_partition_of_1, bind_ok, bind_exc, st_ok, st_exc, seq_nx, seq_rt, seq_bk, seq_ct, seq_exc, turn_nx, turn_ct, turn_bk, turn_rt, turn_exc, mk_true, mk_false, runS_rt, runS_nx, runS_exc, forL_nil, get_off, get_off0, set_off, set_off0, take_len,  sSeq, sIf, sSkip, sRet, sDrop, sAsg, sFor, sGhost, tFreeze, fTest, fBin, fUn, fCall, fCons, fNil, fVar, fC, fAnd, fOr, fNot, fIf, fLst, fTup, fChain, fAndV, fOrV, gNot, allV, g1, g2, gc1, gc2, Sl.get, okV, gNm, gUnp, gUnpL, gsNil, gsCons,  fSeq, fRng1, fRng2, fEnum, fComp, fYes, CT.put, setAll, wipeE, fMeth, isLst, lstAt, appendG, extendG, popG, popAtG, reverseG, countG, fNo, fPart, fSl, slF, revF, addF, subF, mulF, fdivF, modF, powF, ordF, negF, isNonF, isF, absF, max2F, min2F, int1F, lenF, listF, tupleF, sumF, maxF, minF, ixF,  gSubF, setL, sPar, sAug, runC, lift, pureOf, getAll, allVB, D.nol, D.nolL, startE, isiF, seqOf, fRgA, fRgB, rgL, rgT, fTru, truB, gUnpA, fRng3, fZip, zipF, fRev, imulF, ifdivF, fMeth2, isTup, countTG, seqA, seqInts, sumA, maxA, minA, fLenSet, tyName, clsL, clsNm, isiB, eqF_int, neF_int, eqF_ints, neF_ints, eqF_intsT, neF_intsT, e1, e2, -List.getD_eq_getElem?_getD, q, nz, hg, sRaise, lp, xP])
  simp only [m_partition_of, b_partition_of]
  unfold allGood
  cases w : (List.range xs.length).all (goodAt xs) with
  | true =>
    obtain ⟨ρ', μ', e, o1, rfl, rfl⟩ := l.1 w
    simp [bind_ok, bind_exc, st_ok, st_exc, seq_nx, seq_rt, seq_bk, seq_ct, seq_exc, turn_nx, turn_ct, turn_bk, turn_rt, turn_exc, mk_true, mk_false, runS_rt, runS_nx, runS_exc, forL_nil, get_off, get_off0, set_off, set_off0, take_len,  sSeq, sIf, sSkip, sRet, sDrop, sAsg, sFor, sGhost, tFreeze, fTest, fBin, fUn, fCall, fCons, fNil, fVar, fC, fAnd, fOr, fNot, fIf, fLst, fTup, fChain, fAndV, fOrV, gNot, allV, g1, g2, gc1, gc2, Sl.get, okV, gNm, gUnp, gUnpL, gsNil, gsCons,  fSeq, fRng1, fRng2, fEnum, fComp, fYes, CT.put, setAll, wipeE, fMeth, isLst, lstAt, appendG, extendG, popG, popAtG, reverseG, countG, fNo, fPart, fSl, slF, revF, addF, subF, mulF, fdivF, modF, powF, ordF, negF, isNonF, isF, absF, max2F, min2F, int1F, lenF, listF, tupleF, sumF, maxF, minF, ixF,  gSubF, setL, sPar, sAug, runC, lift, pureOf, getAll, allVB, D.nol, D.nolL, startE, isiF, seqOf, fRgA, fRgB, rgL, rgT, fTru, truB, gUnpA, fRng3, fZip, zipF, fRev, imulF, ifdivF, fMeth2, isTup, countTG, seqA, seqInts, sumA, maxA, minA, fLenSet, tyName, clsL, clsNm, isiB, eqF_int, neF_int, eqF_ints, neF_ints, eqF_intsT, neF_intsT, hs, r0, e]
  | false =>
    obtain ⟨ρ', μ', e⟩ := l.2 w
    simp [bind_ok, bind_exc, st_ok, st_exc, seq_nx, seq_rt, seq_bk, seq_ct, seq_exc, turn_nx, turn_ct, turn_bk, turn_rt, turn_exc, mk_true, mk_false, runS_rt, runS_nx, runS_exc, forL_nil, get_off, get_off0, set_off, set_off0, take_len,  sSeq, sIf, sSkip, sRet, sDrop, sAsg, sFor, sGhost, tFreeze, fTest, fBin, fUn, fCall, fCons, fNil, fVar, fC, fAnd, fOr, fNot, fIf, fLst, fTup, fChain, fAndV, fOrV, gNot, allV, g1, g2, gc1, gc2, Sl.get, okV, gNm, gUnp, gUnpL, gsNil, gsCons,  fSeq, fRng1, fRng2, fEnum, fComp, fYes, CT.put, setAll, wipeE, fMeth, isLst, lstAt, appendG, extendG, popG, popAtG, reverseG, countG, fNo, fPart, fSl, slF, revF, addF, subF, mulF, fdivF, modF, powF, ordF, negF, isNonF, isF, absF, max2F, min2F, int1F, lenF, listF, tupleF, sumF, maxF, minF, ixF,  gSubF, setL, sPar, sAug, runC, lift, pureOf, getAll, allVB, D.nol, D.nolL, startE, isiF, seqOf, fRgA, fRgB, rgL, rgT, fTru, truB, gUnpA, fRng3, fZip, zipF, fRev, imulF, ifdivF, fMeth2, isTup, countTG, seqA, seqInts, sumA, maxA, minA, fLenSet, tyName, clsL, clsNm, isiB, eqF_int, neF_int, eqF_ints, neF_ints, eqF_intsT, neF_intsT, hs, r0, e, xP, D.nolL]
theorem what_P (s : Str) : (xP s).what = some (.str s) := rfl
theorem ix20 : ixN 2 0 = some 0 := by decide
theorem ix21 : ixN 2 1 = some 1 := by decide
theorem ix30 : ixN 3 0 = some 0 := by decide
theorem ix31 : ixN 3 1 = some 1 := by decide
theorem ix32 : ixN 3 2 = some 2 := by decide
/-! the law's own partitions -/
theorem atI2_0 (a b : D) : atI [a, b] 0 = some a := by unfold atI; rw [show ixN [a, b].length 0 = some 0 from ix20]; rfl
theorem atI2_1 (a b : D) : atI [a, b] 1 = some b := by unfold atI; rw [show ixN [a, b].length 1 = some 1 from ix21]; rfl
theorem pb_step (m : Sl) (deck P : List Int) (left : Int) (hl : 0 < left) (ν : Store) (o4 o5 : Option Sl) (hP : P.length < lim) : ∃ t : Int, 1 ≤ t ∧ t ≤ left ∧ ∃ deck' : List Int,
    b__law_partition_1 [some (.c 0), some m, some (.v (.int left)), some (.c (ν.length + 1)), o4, o5] (some (.lst (deck.map .int)) :: (ν ++ [some (.lst (P.map .int))])) = .go .nx [some (.c 0), some m, some (.v (.int (left - t))), some (.c (ν.length + 1)), o4, some (.v (.int t))] (some (.lst (deck'.map .int)) :: (ν ++ [some (.lst ((P ++ [t]).map .int))])) := by
  have nz : ¬ left = 0 := by omega
  have tk2 := take_eq deck 2 (by decide) (ν ++ [some (.lst (P.map .int))])
  have b0 := tk_nonneg deck (k := 2) (by decide)
  have b1 := tk_lt deck (k := 2) (by decide)
  rcases (show tk deck 2 = 0 ∨ tk deck 2 = 1 by omega) with e | e
  · rw [e] at tk2
    have tk3 := take_eq deck.dropLast left (by omega) (ν ++ [some (.lst (P.map .int))])
    have c0 := tk_nonneg deck.dropLast (k := left) (by omega)
    have c1 := tk_lt deck.dropLast (k := left) (by omega)
    refine ⟨1 + tk deck.dropLast left, by omega, by omega, deck.dropLast.dropLast, ?_⟩
    simp only [List.map_dropLast] at tk2 tk3
    simp [b__law_partition_1, bind_ok, bind_exc, st_ok, st_exc, seq_nx, seq_rt, seq_bk, seq_ct, seq_exc, turn_nx, turn_ct, turn_bk, turn_rt, turn_exc, mk_true, mk_false, runS_rt, runS_nx, runS_exc, forL_nil, get_off, get_off0, set_off, set_off0, take_len,  sSeq, sIf, sSkip, sRet, sDrop, sAsg, sFor, sGhost, tFreeze, fTest, fBin, fUn, fCall, fCons, fNil, fVar, fC, fAnd, fOr, fNot, fIf, fLst, fTup, fChain, fAndV, fOrV, gNot, allV, g1, g2, gc1, gc2, Sl.get, okV, gNm, gUnp, gUnpL, gsNil, gsCons,  fSeq, fRng1, fRng2, fEnum, fComp, fYes, CT.put, setAll, wipeE, fMeth, isLst, lstAt, appendG, extendG, popG, popAtG, reverseG, countG, fNo, fPart, fSl, slF, revF, addF, subF, mulF, fdivF, modF, powF, ordF, negF, isNonF, isF, absF, max2F, min2F, int1F, lenF, listF, tupleF, sumF, maxF, minF, ixF,  gSubF, setL, sPar, sAug, runC, lift, pureOf, getAll, allVB, D.nol, D.nolL, startE, isiF, seqOf, fRgA, fRgB, rgL, rgT, fTru, truB, gUnpA, fRng3, fZip, zipF, fRev, imulF, ifdivF, fMeth2, isTup, countTG, seqA, seqInts, sumA, maxA, minA, fLenSet, tyName, clsL, clsNm, isiB, eqF_int, neF_int, eqF_ints, neF_ints, eqF_intsT, neF_intsT, nz, tk2, tk3, atI2_0, hP, List.map_dropLast]
  · rw [e] at tk2
    by_cases q : 4 < left
    · have tk3 := take_eq deck.dropLast 4 (by omega) (ν ++ [some (.lst (P.map .int))])
      have c0 := tk_nonneg deck.dropLast (k := 4) (by omega)
      have c1 := tk_lt deck.dropLast (k := 4) (by omega)
      refine ⟨1 + tk deck.dropLast 4, by omega, by omega, deck.dropLast.dropLast, ?_⟩
      simp only [List.map_dropLast] at tk2 tk3
      simp [b__law_partition_1, bind_ok, bind_exc, st_ok, st_exc, seq_nx, seq_rt, seq_bk, seq_ct, seq_exc, turn_nx, turn_ct, turn_bk, turn_rt, turn_exc, mk_true, mk_false, runS_rt, runS_nx, runS_exc, forL_nil, get_off, get_off0, set_off, set_off0, take_len,  sSeq, sIf, sSkip, sRet, sDrop, sAsg, sFor, sGhost, tFreeze, fTest, fBin, fUn, fCall, fCons, fNil, fVar, fC, fAnd, fOr, fNot, fIf, fLst, fTup, fChain, fAndV, fOrV, gNot, allV, g1, g2, gc1, gc2, Sl.get, okV, gNm, gUnp, gUnpL, gsNil, gsCons,  fSeq, fRng1, fRng2, fEnum, fComp, fYes, CT.put, setAll, wipeE, fMeth, isLst, lstAt, appendG, extendG, popG, popAtG, reverseG, countG, fNo, fPart, fSl, slF, revF, addF, subF, mulF, fdivF, modF, powF, ordF, negF, isNonF, isF, absF, max2F, min2F, int1F, lenF, listF, tupleF, sumF, maxF, minF, ixF,  gSubF, setL, sPar, sAug, runC, lift, pureOf, getAll, allVB, D.nol, D.nolL, startE, isiF, seqOf, fRgA, fRgB, rgL, rgT, fTru, truB, gUnpA, fRng3, fZip, zipF, fRev, imulF, ifdivF, fMeth2, isTup, countTG, seqA, seqInts, sumA, maxA, minA, fLenSet, tyName, clsL, clsNm, isiB, eqF_int, neF_int, eqF_ints, neF_ints, eqF_intsT, neF_intsT, nz, tk2, tk3, atI2_1, q, hP, List.map_dropLast]
    · have tk3 := take_eq deck.dropLast left (by omega) (ν ++ [some (.lst (P.map .int))])
      have c0 := tk_nonneg deck.dropLast (k := left) (by omega)
      have c1 := tk_lt deck.dropLast (k := left) (by omega)
      refine ⟨1 + tk deck.dropLast left, by omega, by omega, deck.dropLast.dropLast, ?_⟩
      simp only [List.map_dropLast] at tk2 tk3
      simp [b__law_partition_1, bind_ok, bind_exc, st_ok, st_exc, seq_nx, seq_rt, seq_bk, seq_ct, seq_exc, turn_nx, turn_ct, turn_bk, turn_rt, turn_exc, mk_true, mk_false, runS_rt, runS_nx, runS_exc, forL_nil, get_off, get_off0, set_off, set_off0, take_len,  sSeq, sIf, sSkip, sRet, sDrop, sAsg, sFor, sGhost, tFreeze, fTest, fBin, fUn, fCall, fCons, fNil, fVar, fC, fAnd, fOr, fNot, fIf, fLst, fTup, fChain, fAndV, fOrV, gNot, allV, g1, g2, gc1, gc2, Sl.get, okV, gNm, gUnp, gUnpL, gsNil, gsCons,  fSeq, fRng1, fRng2, fEnum, fComp, fYes, CT.put, setAll, wipeE, fMeth, isLst, lstAt, appendG, extendG, popG, popAtG, reverseG, countG, fNo, fPart, fSl, slF, revF, addF, subF, mulF, fdivF, modF, powF, ordF, negF, isNonF, isF, absF, max2F, min2F, int1F, lenF, listF, tupleF, sumF, maxF, minF, ixF,  gSubF, setL, sPar, sAug, runC, lift, pureOf, getAll, allVB, D.nol, D.nolL, startE, isiF, seqOf, fRgA, fRgB, rgL, rgT, fTru, truB, gUnpA, fRng3, fZip, zipF, fRev, imulF, ifdivF, fMeth2, isTup, countTG, seqA, seqInts, sumA, maxA, minA, fLenSet, tyName, clsL, clsNm, isiB, eqF_int, neF_int, eqF_ints, neF_ints, eqF_intsT, neF_intsT, nz, tk2, tk3, atI2_1, q, hP, List.map_dropLast]
theorem pb_loop (m : Sl) (ν : Store) : ∀ (ds : List D) (deck P : List Int) (left : Int) (o4 o5 : Option Sl), 0 ≤ left → P.length + ds.length ≤ 1000 → (∀ x ∈ P, 1 ≤ x) →
    ∃ (deck' P' : List Int) (left' : Int) (o4' o5' : Option Sl), sForL (gNm 4) b__law_partition_1 ds [some (.c 0), some m, some (.v (.int left)), some (.c (ν.length + 1)), o4, o5] (some (.lst (deck.map .int)) :: (ν ++ [some (.lst (P.map .int))])) = .go .nx [some (.c 0), some m, some (.v (.int left')), some (.c (ν.length + 1)), o4', o5'] (some (.lst (deck'.map .int)) :: (ν ++ [some (.lst (P'.map .int))]))
      ∧ P'.length ≤ 1000 ∧ (∀ x ∈ P', 1 ≤ x) ∧ 0 ≤ left' ∧ P'.sum + left' = P.sum + left
  | [], deck, P, left, o4, o5, h1, h2, h3 => ⟨deck, P, left, o4, o5, rfl, by simpa using h2, h3, h1, rfl⟩
  | d :: ds, deck, P, left, o4, o5, h1, h2, h3 => by
    rw [List.length_cons] at h2
    by_cases q : left = 0
    · subst q
      refine ⟨deck, P, 0, some (.v d), o5, ?_, by omega, h3, h1, rfl⟩
      rw [sForL]
      simp [gNm, b__law_partition_1, bind_ok, bind_exc, st_ok, st_exc, seq_nx, seq_rt, seq_bk, seq_ct, seq_exc, turn_nx, turn_ct, turn_bk, turn_rt, turn_exc, mk_true, mk_false, runS_rt, runS_nx, runS_exc, forL_nil, get_off, get_off0, set_off, set_off0, take_len,  sSeq, sIf, sSkip, sRet, sDrop, sAsg, sFor, sGhost, tFreeze, fTest, fBin, fUn, fCall, fCons, fNil, fVar, fC, fAnd, fOr, fNot, fIf, fLst, fTup, fChain, fAndV, fOrV, gNot, allV, g1, g2, gc1, gc2, Sl.get, okV, gNm, gUnp, gUnpL, gsNil, gsCons,  fSeq, fRng1, fRng2, fEnum, fComp, fYes, CT.put, setAll, wipeE, fMeth, isLst, lstAt, appendG, extendG, popG, popAtG, reverseG, countG, fNo, fPart, fSl, slF, revF, addF, subF, mulF, fdivF, modF, powF, ordF, negF, isNonF, isF, absF, max2F, min2F, int1F, lenF, listF, tupleF, sumF, maxF, minF, ixF,  gSubF, setL, sPar, sAug, runC, lift, pureOf, getAll, allVB, D.nol, D.nolL, startE, isiF, seqOf, fRgA, fRgB, rgL, rgT, fTru, truB, gUnpA, fRng3, fZip, zipF, fRev, imulF, ifdivF, fMeth2, isTup, countTG, seqA, seqInts, sumA, maxA, minA, fLenSet, tyName, clsL, clsNm, isiB, eqF_int, neF_int, eqF_ints, neF_ints, eqF_intsT, neF_intsT]
    · obtain ⟨t, t1, t2, deck1, e⟩ := pb_step m deck P left (by omega) ν (some (.v d)) o5 (by rw [hlim]; omega)
      obtain ⟨deck', P', left', o4', o5', e2, r1, r2, r3, r4⟩ := pb_loop m ν ds deck1 (P ++ [t]) (left - t) (some (.v d)) (some (.v (.int t))) (by omega) (by rw [List.length_append, List.length_singleton]; omega) (fun x hx => by
        rcases List.mem_append.mp hx with hx | hx
        · exact h3 x hx
        · rw [List.mem_singleton.mp hx]; exact t1)
      refine ⟨deck', P', left', o4', o5', ?_, r1, r2, r3, ?_⟩
      · rw [sForL]
        simp only [gNm, List.set_cons_succ, List.set_cons_zero, e, turn_nx]
        exact e2
      · rw [r4, List.sum_append, List.sum_singleton]; omega
theorem le_sum : ∀ {P : List Int}, (∀ x ∈ P, 1 ≤ x) → (∀ x ∈ P, x ≤ P.sum) ∧ 0 ≤ P.sum
  | [], _ => ⟨fun x h => by simp at h, Int.le_refl _⟩
  | y :: P, h => by
    have h1 := h y (by simp)
    obtain ⟨h2, h3⟩ := le_sum (P := P) fun x m => h x (List.mem_cons_of_mem _ m)
    rw [List.sum_cons]
    refine ⟨fun x m => ?_, by omega⟩
    rcases List.mem_cons.mp m with rfl | m
    · omega
    · have := h2 x m; omega
theorem lawpart_eq (deck : List Int) (most : Nat) (hm : most ≤ 1000) (μ : Store) : ∃ (p : List Nat) (deck' : List Int), PS p ∧ m__law_partition [.c 0, .v (.int most)] (some (.lst (deck.map .int)) :: μ) = .ok (.v (Tq p)) (some (.lst (deck'.map .int)) :: μ) := by
  have tk1 := take_eq deck ((most : Int) + 1) (by omega) μ
  have c0 := tk_nonneg deck (k := (most : Int) + 1) (by omega)
  have c1 := tk_lt deck (k := (most : Int) + 1) (by omega)
  obtain ⟨deck', P, left', o4, o5, lp, r1, r2, r3, r4⟩ := pb_loop (.v (.int most)) μ (rangeD 0 most) deck.dropLast [] (tk deck ((most : Int) + 1)) none none c0 (by rw [rangeD_len]; simp; omega) (by simp)
  obtain ⟨s1, s2⟩ := le_sum r2
  have pm := srtB_perm true P
  have nn : ((srtB true P).map Int.toNat).map (fun k : Nat => (k : Int)) = srtB true P := by
    rw [List.map_map]
    have : (srtB true P).map ((fun k : Nat => (k : Int)) ∘ Int.toNat) = (srtB true P).map id := List.map_congr_left fun x hx => by
      have := r2 x (pm.mem_iff.mp hx)
      simp only [Function.comp, id]
      omega
    rw [this, List.map_id]
  refine ⟨(srtB true P).map Int.toNat, deck', ⟨⟨?_, ?_⟩, ?_, ?_⟩, ?_⟩
  · rw [List.pairwise_map]
    exact (srtB_desc P).imp fun h => by omega
  · intro x hx
    obtain ⟨y, hy, rfl⟩ := List.mem_map.mp hx
    have := r2 y (pm.mem_iff.mp hy)
    omega
  · rw [List.length_map, pm.length_eq]; exact r1
  · intro x hx
    obtain ⟨y, hy, rfl⟩ := List.mem_map.mp hx
    have h1 := s1 y (pm.mem_iff.mp hy)
    simp only [List.sum_nil, Int.zero_add] at r4
    omega
  · have hs : most < 2305843009213693952 := by omega
    have so := fun μ => sortF2_on false true (.lst (P.map .int)) P rfl μ
    have nT : Tq ((srtB true P).map Int.toNat) = .tup ((srtB true P).map .int) := by
      refine congrArg D.tup ?_
      conv => rhs; rw [← nn]
      rw [List.map_map, List.map_map, List.map_map]
      rfl
    rw [nT]
    simp only [m__law_partition, b__law_partition]
    simp only [List.map_dropLast] at tk1 lp
    simp at lp
    simp [bind_ok, bind_exc, st_ok, st_exc, seq_nx, seq_rt, seq_bk, seq_ct, seq_exc, turn_nx, turn_ct, turn_bk, turn_rt, turn_exc, mk_true, mk_false, runS_rt, runS_nx, runS_exc, forL_nil, get_off, get_off0, set_off, set_off0, take_len,  sSeq, sIf, sSkip, sRet, sDrop, sAsg, sFor, sGhost, tFreeze, fTest, fBin, fUn, fCall, fCons, fNil, fVar, fC, fAnd, fOr, fNot, fIf, fLst, fTup, fChain, fAndV, fOrV, gNot, allV, g1, g2, gc1, gc2, Sl.get, okV, gNm, gUnp, gUnpL, gsNil, gsCons,  fSeq, fRng1, fRng2, fEnum, fComp, fYes, CT.put, setAll, wipeE, fMeth, isLst, lstAt, appendG, extendG, popG, popAtG, reverseG, countG, fNo, fPart, fSl, slF, revF, addF, subF, mulF, fdivF, modF, powF, ordF, negF, isNonF, isF, absF, max2F, min2F, int1F, lenF, listF, tupleF, sumF, maxF, minF, ixF,  gSubF, setL, sPar, sAug, runC, lift, pureOf, getAll, allVB, D.nol, D.nolL, startE, isiF, seqOf, fRgA, fRgB, rgL, rgT, fTru, truB, gUnpA, fRng3, fZip, zipF, fRev, imulF, ifdivF, fMeth2, isTup, countTG, seqA, seqInts, sumA, maxA, minA, fLenSet, tyName, clsL, clsNm, isiB, eqF_int, neF_int, eqF_ints, neF_ints, eqF_intsT, neF_intsT, tk1, hs]
    rw [lp]
    simp [bind_ok, bind_exc, st_ok, st_exc, seq_nx, seq_rt, seq_bk, seq_ct, seq_exc, turn_nx, turn_ct, turn_bk, turn_rt, turn_exc, mk_true, mk_false, runS_rt, runS_nx, runS_exc, forL_nil, get_off, get_off0, set_off, set_off0, take_len,  sSeq, sIf, sSkip, sRet, sDrop, sAsg, sFor, sGhost, tFreeze, fTest, fBin, fUn, fCall, fCons, fNil, fVar, fC, fAnd, fOr, fNot, fIf, fLst, fTup, fChain, fAndV, fOrV, gNot, allV, g1, g2, gc1, gc2, Sl.get, okV, gNm, gUnp, gUnpL, gsNil, gsCons,  fSeq, fRng1, fRng2, fEnum, fComp, fYes, CT.put, setAll, wipeE, fMeth, isLst, lstAt, appendG, extendG, popG, popAtG, reverseG, countG, fNo, fPart, fSl, slF, revF, addF, subF, mulF, fdivF, modF, powF, ordF, negF, isNonF, isF, absF, max2F, min2F, int1F, lenF, listF, tupleF, sumF, maxF, minF, ixF,  gSubF, setL, sPar, sAug, runC, lift, pureOf, getAll, allVB, D.nol, D.nolL, startE, isiF, seqOf, fRgA, fRgB, rgL, rgT, fTru, truB, gUnpA, fRng3, fZip, zipF, fRev, imulF, ifdivF, fMeth2, isTup, countTG, seqA, seqInts, sumA, maxA, minA, fLenSet, tyName, clsL, clsNm, isiB, eqF_int, neF_int, eqF_ints, neF_ints, eqF_intsT, neF_intsT, so]
/-! count_partitions -/
def sgn (s : Int) : Int := if s.fmod 2 = 1 then 1 else -1
def pentT : Nat → Int → Int → List (Int × Int)
  | 0, _, _ => []
  | f + 1, s, n => if (s * (3 * s - 1)).fdiv 2 ≤ n then (sgn s, (s * (3 * s - 1)).fdiv 2) :: (sgn s, (s * (3 * s + 1)).fdiv 2) :: pentT f (s + 1) n else []
abbrev pD (b : Int × Int) : D := .tup [.int b.1, .int b.2]
theorem fdiv_lo {s : Int} (h : 1 ≤ s) : s ≤ (s * (3 * s - 1)).fdiv 2 ∧ s ≤ (s * (3 * s + 1)).fdiv 2 := by
  rw [Int.fdiv_eq_ediv_of_nonneg _ (by decide), Int.fdiv_eq_ediv_of_nonneg _ (by decide)]
  have h1 : s * 2 ≤ s * (3 * s - 1) := Int.mul_le_mul_of_nonneg_left (by omega) (by omega)
  have h2 : s * 2 ≤ s * (3 * s + 1) := Int.mul_le_mul_of_nonneg_left (by omega) (by omega)
  omega
theorem pentT_ok : ∀ (f : Nat) (s n : Int), 1 ≤ s → ∀ b ∈ pentT f s n, (b.1 = 1 ∨ b.1 = -1) ∧ 1 ≤ b.2
  | 0, _, _, _, b, h => by simp [pentT] at h
  | f + 1, s, n, hs, b, h => by
    unfold pentT at h
    have sg : sgn s = 1 ∨ sgn s = -1 := by unfold sgn; split <;> simp
    have lo := fdiv_lo hs
    split at h
    · rcases List.mem_cons.mp h with rfl | h
      · exact ⟨sg, by simp only; omega⟩
      · rcases List.mem_cons.mp h with rfl | h
        · exact ⟨sg, by simp only; omega⟩
        · exact pentT_ok f (s + 1) n (by omega) b h
    · simp at h
theorem pentT_len : ∀ (f : Nat) (s n : Int), (pentT f s n).length ≤ 2 * f
  | 0, _, _ => by simp [pentT]
  | f + 1, s, n => by
    unfold pentT
    split
    · have := pentT_len f (s + 1) n
      simp only [List.length_cons]; omega
    · simp
theorem pent_loop (n : Nat) (hn : n ≤ 1000) : ∀ (f F : Nat) (s : Int) (acc : List (Int × Int)) (o3 : Option Sl), 1 ≤ s → (n : Int) < s + f → s ≤ 1002 → f < F → acc.length + 2 * f ≤ 3000 →
    ∃ s' o3', sWhN (fTest (fBin (fBin (fBin (fVar 2) (fBin (fBin (fC (.int 3)) (fVar 2) (g2 (mulF false))) (fC (.int 1)) (g2 subF)) (g2 (mulF false))) (fC (.int 2)) (g2 fdivF)) (fVar 0) (g2 leF))) (b_pentagonal_terms_1) F [some (.v (.int n)), some (.c 0), some (.v (.int s)), o3] [some (.lst (acc.map pD))] = .go .nx [some (.v (.int n)), some (.c 0), s', o3'] [some (.lst ((acc ++ pentT f s n).map pD))]
  | f, 0, _, _, _, _, _, _, h, _ => by omega
  | 0, F + 1, s, acc, o3, h1, h2, h3, _, _ => by
    have lo := (fdiv_lo h1).1
    have q : ¬ (s * (3 * s - 1)).fdiv 2 ≤ (n : Int) := by omega
    have m1 : mulOk 3 s = true := mulOk_l _ _ (by decide)
    have m2 : mulOk s (3 * s - 1) = true := by unfold mulOk; have e : (2 : Int) ^ 64 = 18446744073709551616 := by decide
                                               rw [e]; simp; omega
    refine ⟨some (.v (.int s)), o3, ?_⟩
    rw [sWhN]
    simp [bind_ok, bind_exc, st_ok, st_exc, seq_nx, seq_rt, seq_bk, seq_ct, seq_exc, turn_nx, turn_ct, turn_bk, turn_rt, turn_exc, mk_true, mk_false, runS_rt, runS_nx, runS_exc, forL_nil, get_off, get_off0, set_off, set_off0, take_len,  sSeq, sIf, sSkip, sRet, sDrop, sAsg, sFor, sGhost, tFreeze, fTest, fBin, fUn, fCall, fCons, fNil, fVar, fC, fAnd, fOr, fNot, fIf, fLst, fTup, fChain, fAndV, fOrV, gNot, allV, g1, g2, gc1, gc2, Sl.get, okV, gNm, gUnp, gUnpL, gsNil, gsCons,  fSeq, fRng1, fRng2, fEnum, fComp, fYes, CT.put, setAll, wipeE, fMeth, isLst, lstAt, appendG, extendG, popG, popAtG, reverseG, countG, fNo, fPart, fSl, slF, revF, addF, subF, mulF, fdivF, modF, powF, ordF, negF, isNonF, isF, absF, max2F, min2F, int1F, lenF, listF, tupleF, sumF, maxF, minF, ixF,  gSubF, setL, sPar, sAug, runC, lift, pureOf, getAll, allVB, D.nol, D.nolL, startE, isiF, seqOf, fRgA, fRgB, rgL, rgT, fTru, truB, gUnpA, fRng3, fZip, zipF, fRev, imulF, ifdivF, fMeth2, isTup, countTG, seqA, seqInts, sumA, maxA, minA, fLenSet, tyName, clsL, clsNm, isiB, eqF_int, neF_int, eqF_ints, neF_ints, eqF_intsT, neF_intsT, m1, m2, q, pentT]
  | f + 1, F + 1, s, acc, o3, h1, h2, h3, h4, h5 => by
    have m1 : mulOk 3 s = true := mulOk_l _ _ (by decide)
    have e64 : (2 : Int) ^ 64 = 18446744073709551616 := by decide
    have m2 : mulOk s (3 * s - 1) = true := by unfold mulOk; rw [e64]; simp; omega
    have m3 : mulOk s (3 * s + 1) = true := by unfold mulOk; rw [e64]; simp; omega
    by_cases q : (s * (3 * s - 1)).fdiv 2 ≤ (n : Int)
    · have lo := (fdiv_lo h1).1
      obtain ⟨s', o3', ih⟩ := pent_loop n hn f F (s + 1) (acc ++ [(sgn s, (s * (3 * s - 1)).fdiv 2), (sgn s, (s * (3 * s + 1)).fdiv 2)]) (some (.v (.int (sgn s)))) (by omega) (by omega) (by omega) (by omega) (by simp; omega)
      have l1 : acc.length < lim := by rw [hlim]; omega
      have l2 : acc.length + 1 < lim := by rw [hlim]; omega
      refine ⟨s', o3', ?_⟩
      have e : acc ++ pentT (f + 1) s n = (acc ++ [(sgn s, (s * (3 * s - 1)).fdiv 2), (sgn s, (s * (3 * s + 1)).fdiv 2)]) ++ pentT f (s + 1) n := by
        conv => lhs; unfold pentT
        rw [if_pos q, List.append_assoc]
        rfl
      rw [e, ← ih, sWhN]
      by_cases g : s.fmod 2 = 1
      · simp [bind_ok, bind_exc, st_ok, st_exc, seq_nx, seq_rt, seq_bk, seq_ct, seq_exc, turn_nx, turn_ct, turn_bk, turn_rt, turn_exc, mk_true, mk_false, runS_rt, runS_nx, runS_exc, forL_nil, get_off, get_off0, set_off, set_off0, take_len,  sSeq, sIf, sSkip, sRet, sDrop, sAsg, sFor, sGhost, tFreeze, fTest, fBin, fUn, fCall, fCons, fNil, fVar, fC, fAnd, fOr, fNot, fIf, fLst, fTup, fChain, fAndV, fOrV, gNot, allV, g1, g2, gc1, gc2, Sl.get, okV, gNm, gUnp, gUnpL, gsNil, gsCons,  fSeq, fRng1, fRng2, fEnum, fComp, fYes, CT.put, setAll, wipeE, fMeth, isLst, lstAt, appendG, extendG, popG, popAtG, reverseG, countG, fNo, fPart, fSl, slF, revF, addF, subF, mulF, fdivF, modF, powF, ordF, negF, isNonF, isF, absF, max2F, min2F, int1F, lenF, listF, tupleF, sumF, maxF, minF, ixF,  gSubF, setL, sPar, sAug, runC, lift, pureOf, getAll, allVB, D.nol, D.nolL, startE, isiF, seqOf, fRgA, fRgB, rgL, rgT, fTru, truB, gUnpA, fRng3, fZip, zipF, fRev, imulF, ifdivF, fMeth2, isTup, countTG, seqA, seqInts, sumA, maxA, minA, fLenSet, tyName, clsL, clsNm, isiB, eqF_int, neF_int, eqF_ints, neF_ints, eqF_intsT, neF_intsT, m1, m2, m3, q, b_pentagonal_terms_1, l1, l2, sgn, g]
      · simp [bind_ok, bind_exc, st_ok, st_exc, seq_nx, seq_rt, seq_bk, seq_ct, seq_exc, turn_nx, turn_ct, turn_bk, turn_rt, turn_exc, mk_true, mk_false, runS_rt, runS_nx, runS_exc, forL_nil, get_off, get_off0, set_off, set_off0, take_len,  sSeq, sIf, sSkip, sRet, sDrop, sAsg, sFor, sGhost, tFreeze, fTest, fBin, fUn, fCall, fCons, fNil, fVar, fC, fAnd, fOr, fNot, fIf, fLst, fTup, fChain, fAndV, fOrV, gNot, allV, g1, g2, gc1, gc2, Sl.get, okV, gNm, gUnp, gUnpL, gsNil, gsCons,  fSeq, fRng1, fRng2, fEnum, fComp, fYes, CT.put, setAll, wipeE, fMeth, isLst, lstAt, appendG, extendG, popG, popAtG, reverseG, countG, fNo, fPart, fSl, slF, revF, addF, subF, mulF, fdivF, modF, powF, ordF, negF, isNonF, isF, absF, max2F, min2F, int1F, lenF, listF, tupleF, sumF, maxF, minF, ixF,  gSubF, setL, sPar, sAug, runC, lift, pureOf, getAll, allVB, D.nol, D.nolL, startE, isiF, seqOf, fRgA, fRgB, rgL, rgT, fTru, truB, gUnpA, fRng3, fZip, zipF, fRev, imulF, ifdivF, fMeth2, isTup, countTG, seqA, seqInts, sumA, maxA, minA, fLenSet, tyName, clsL, clsNm, isiB, eqF_int, neF_int, eqF_ints, neF_ints, eqF_intsT, neF_intsT, m1, m2, m3, q, b_pentagonal_terms_1, l1, l2, sgn, g]
    · refine ⟨some (.v (.int s)), o3, ?_⟩
      have e : pentT (f + 1) s n = [] := by unfold pentT; rw [if_neg q]
      rw [sWhN, e]
      simp [bind_ok, bind_exc, st_ok, st_exc, seq_nx, seq_rt, seq_bk, seq_ct, seq_exc, turn_nx, turn_ct, turn_bk, turn_rt, turn_exc, mk_true, mk_false, runS_rt, runS_nx, runS_exc, forL_nil, get_off, get_off0, set_off, set_off0, take_len,  sSeq, sIf, sSkip, sRet, sDrop, sAsg, sFor, sGhost, tFreeze, fTest, fBin, fUn, fCall, fCons, fNil, fVar, fC, fAnd, fOr, fNot, fIf, fLst, fTup, fChain, fAndV, fOrV, gNot, allV, g1, g2, gc1, gc2, Sl.get, okV, gNm, gUnp, gUnpL, gsNil, gsCons,  fSeq, fRng1, fRng2, fEnum, fComp, fYes, CT.put, setAll, wipeE, fMeth, isLst, lstAt, appendG, extendG, popG, popAtG, reverseG, countG, fNo, fPart, fSl, slF, revF, addF, subF, mulF, fdivF, modF, powF, ordF, negF, isNonF, isF, absF, max2F, min2F, int1F, lenF, listF, tupleF, sumF, maxF, minF, ixF,  gSubF, setL, sPar, sAug, runC, lift, pureOf, getAll, allVB, D.nol, D.nolL, startE, isiF, seqOf, fRgA, fRgB, rgL, rgT, fTru, truB, gUnpA, fRng3, fZip, zipF, fRev, imulF, ifdivF, fMeth2, isTup, countTG, seqA, seqInts, sumA, maxA, minA, fLenSet, tyName, clsL, clsNm, isiB, eqF_int, neF_int, eqF_ints, neF_ints, eqF_intsT, neF_intsT, m1, m2, q]
def pent (n : Nat) : List (Int × Int) := pentT (n + 1) 1 n
theorem pent_eq (n : Nat) (hn : n ≤ 1000) (μ : Store) : m_pentagonal_terms [.v (.int n)] μ = .ok (.v (.lst ((pent n).map pD))) μ := by
  obtain ⟨s', o3', e⟩ := pent_loop n hn (n + 1) 1000000 1 [] none (by decide) (by omega) (by decide) (by omega) (by simp; omega)
  simp only [m_pentagonal_terms, b_pentagonal_terms]
  simp at e
  simp [bind_ok, bind_exc, st_ok, st_exc, seq_nx, seq_rt, seq_bk, seq_ct, seq_exc, turn_nx, turn_ct, turn_bk, turn_rt, turn_exc, mk_true, mk_false, runS_rt, runS_nx, runS_exc, forL_nil, get_off, get_off0, set_off, set_off0, take_len,  sSeq, sIf, sSkip, sRet, sDrop, sAsg, sFor, sGhost, tFreeze, fTest, fBin, fUn, fCall, fCons, fNil, fVar, fC, fAnd, fOr, fNot, fIf, fLst, fTup, fChain, fAndV, fOrV, gNot, allV, g1, g2, gc1, gc2, Sl.get, okV, gNm, gUnp, gUnpL, gsNil, gsCons,  fSeq, fRng1, fRng2, fEnum, fComp, fYes, CT.put, setAll, wipeE, fMeth, isLst, lstAt, appendG, extendG, popG, popAtG, reverseG, countG, fNo, fPart, fSl, slF, revF, addF, subF, mulF, fdivF, modF, powF, ordF, negF, isNonF, isF, absF, max2F, min2F, int1F, lenF, listF, tupleF, sumF, maxF, minF, ixF,  gSubF, setL, sPar, sAug, runC, lift, pureOf, getAll, allVB, D.nol, D.nolL, startE, isiF, seqOf, fRgA, fRgB, rgL, rgT, fTru, truB, gUnpA, fRng3, fZip, zipF, fRev, imulF, ifdivF, fMeth2, isTup, countTG, seqA, seqInts, sumA, maxA, minA, fLenSet, tyName, clsL, clsNm, isiB, eqF_int, neF_int, eqF_ints, neF_ints, eqF_intsT, neF_intsT]
  rw [e]
  simp [bind_ok, bind_exc, st_ok, st_exc, seq_nx, seq_rt, seq_bk, seq_ct, seq_exc, turn_nx, turn_ct, turn_bk, turn_rt, turn_exc, mk_true, mk_false, runS_rt, runS_nx, runS_exc, forL_nil, get_off, get_off0, set_off, set_off0, take_len,  sSeq, sIf, sSkip, sRet, sDrop, sAsg, sFor, sGhost, tFreeze, fTest, fBin, fUn, fCall, fCons, fNil, fVar, fC, fAnd, fOr, fNot, fIf, fLst, fTup, fChain, fAndV, fOrV, gNot, allV, g1, g2, gc1, gc2, Sl.get, okV, gNm, gUnp, gUnpL, gsNil, gsCons,  fSeq, fRng1, fRng2, fEnum, fComp, fYes, CT.put, setAll, wipeE, fMeth, isLst, lstAt, appendG, extendG, popG, popAtG, reverseG, countG, fNo, fPart, fSl, slF, revF, addF, subF, mulF, fdivF, modF, powF, ordF, negF, isNonF, isF, absF, max2F, min2F, int1F, lenF, listF, tupleF, sumF, maxF, minF, ixF,  gSubF, setL, sPar, sAug, runC, lift, pureOf, getAll, allVB, D.nol, D.nolL, startE, isiF, seqOf, fRgA, fRgB, rgL, rgT, fTru, truB, gUnpA, fRng3, fZip, zipF, fRev, imulF, ifdivF, fMeth2, isTup, countTG, seqA, seqInts, sumA, maxA, minA, fLenSet, tyName, clsL, clsNm, isiB, eqF_int, neF_int, eqF_ints, neF_ints, eqF_intsT, neF_intsT, pent]
def innT (counts : List Int) (at' : Int) : List (Int × Int) → Int → Int
  | [], t => t
  | b :: bs, t => if at' < b.2 then t else innT counts at' bs (t + b.1 * counts.getD (at' - b.2).toNat 0)
theorem inn_loop (T : List (Int × Int)) (N : Sl) (counts : List Int) (at' : Nat) (hc : counts.length = at') : ∀ (bs : List (Int × Int)) (t : Int) (o5 o6 : Option Sl), (∀ b ∈ bs, (b.1 = 1 ∨ b.1 = -1) ∧ 1 ≤ b.2) →
    ∃ o5' o6', sForL (gUnpA 2 (gsCons (gNm 5) (gsCons (gNm 6) (gsNil)))) b_count_partitions_1 (bs.map pD) [some N, some (.c 0), some (.v (.lst (T.map pD))), some (.v (.int at')), some (.v (.int t)), o5, o6] [some (.lst (counts.map .int))] = .go .nx [some N, some (.c 0), some (.v (.lst (T.map pD))), some (.v (.int at')), some (.v (.int (innT counts at' bs t))), o5', o6'] [some (.lst (counts.map .int))]
  | [], t, o5, o6, _ => ⟨o5, o6, rfl⟩
  | b :: bs, t, o5, o6, h => by
    obtain ⟨h1, h2⟩ := h b List.mem_cons_self
    rw [List.map_cons, sForL]
    by_cases q : (at' : Int) < b.2
    · refine ⟨some (.v (.int b.1)), some (.v (.int b.2)), ?_⟩
      unfold innT
      rw [if_pos q]
      simp [bind_ok, bind_exc, st_ok, st_exc, seq_nx, seq_rt, seq_bk, seq_ct, seq_exc, turn_nx, turn_ct, turn_bk, turn_rt, turn_exc, mk_true, mk_false, runS_rt, runS_nx, runS_exc, forL_nil, get_off, get_off0, set_off, set_off0, take_len,  sSeq, sIf, sSkip, sRet, sDrop, sAsg, sFor, sGhost, tFreeze, fTest, fBin, fUn, fCall, fCons, fNil, fVar, fC, fAnd, fOr, fNot, fIf, fLst, fTup, fChain, fAndV, fOrV, gNot, allV, g1, g2, gc1, gc2, Sl.get, okV, gNm, gUnp, gUnpL, gsNil, gsCons,  fSeq, fRng1, fRng2, fEnum, fComp, fYes, CT.put, setAll, wipeE, fMeth, isLst, lstAt, appendG, extendG, popG, popAtG, reverseG, countG, fNo, fPart, fSl, slF, revF, addF, subF, mulF, fdivF, modF, powF, ordF, negF, isNonF, isF, absF, max2F, min2F, int1F, lenF, listF, tupleF, sumF, maxF, minF, ixF,  gSubF, setL, sPar, sAug, runC, lift, pureOf, getAll, allVB, D.nol, D.nolL, startE, isiF, seqOf, fRgA, fRgB, rgL, rgT, fTru, truB, gUnpA, fRng3, fZip, zipF, fRev, imulF, ifdivF, fMeth2, isTup, countTG, seqA, seqInts, sumA, maxA, minA, fLenSet, tyName, clsL, clsNm, isiB, eqF_int, neF_int, eqF_ints, neF_ints, eqF_intsT, neF_intsT, b_count_partitions_1, q]
    · obtain ⟨o5', o6', ih⟩ := inn_loop T N counts at' hc bs (t + b.1 * counts.getD ((at' : Int) - b.2).toNat 0) (some (.v (.int b.1))) (some (.v (.int b.2))) (fun x m => h x (List.mem_cons_of_mem _ m))
      refine ⟨o5', o6', ?_⟩
      unfold innT
      rw [if_neg q, ← ih]
      have ga : atI (counts.map D.int) ((at' : Int) - b.2) = some (.int (counts.getD ((at' : Int) - b.2).toNat 0)) := by
        have := atI_int counts ((at' : Int) - b.2).toNat (by omega)
        rwa [Int.toNat_of_nonneg (by omega)] at this
      have mo : ∀ x, mulOk b.1 x = true := fun x => mulOk_l _ _ (by rcases h1 with e | e <;> rw [e] <;> decide)
      simp [bind_ok, bind_exc, st_ok, st_exc, seq_nx, seq_rt, seq_bk, seq_ct, seq_exc, turn_nx, turn_ct, turn_bk, turn_rt, turn_exc, mk_true, mk_false, runS_rt, runS_nx, runS_exc, forL_nil, get_off, get_off0, set_off, set_off0, take_len,  sSeq, sIf, sSkip, sRet, sDrop, sAsg, sFor, sGhost, tFreeze, fTest, fBin, fUn, fCall, fCons, fNil, fVar, fC, fAnd, fOr, fNot, fIf, fLst, fTup, fChain, fAndV, fOrV, gNot, allV, g1, g2, gc1, gc2, Sl.get, okV, gNm, gUnp, gUnpL, gsNil, gsCons,  fSeq, fRng1, fRng2, fEnum, fComp, fYes, CT.put, setAll, wipeE, fMeth, isLst, lstAt, appendG, extendG, popG, popAtG, reverseG, countG, fNo, fPart, fSl, slF, revF, addF, subF, mulF, fdivF, modF, powF, ordF, negF, isNonF, isF, absF, max2F, min2F, int1F, lenF, listF, tupleF, sumF, maxF, minF, ixF,  gSubF, setL, sPar, sAug, runC, lift, pureOf, getAll, allVB, D.nol, D.nolL, startE, isiF, seqOf, fRgA, fRgB, rgL, rgT, fTru, truB, gUnpA, fRng3, fZip, zipF, fRev, imulF, ifdivF, fMeth2, isTup, countTG, seqA, seqInts, sumA, maxA, minA, fLenSet, tyName, clsL, clsNm, isiB, eqF_int, neF_int, eqF_ints, neF_ints, eqF_intsT, neF_intsT, b_count_partitions_1, q, ga, mo, -List.getD_eq_getElem?_getD]
def cnts (T : List (Int × Int)) : Nat → List Int
  | 0 => [1]
  | k + 1 => cnts T k ++ [innT (cnts T k) (k + 1 : Nat) T 0]
theorem cnts_len (T : List (Int × Int)) : ∀ k, (cnts T k).length = k + 1
  | 0 => rfl
  | k + 1 => by rw [cnts, List.length_append, cnts_len T k]; rfl
def cp (n : Nat) : Int := (cnts (pent n) n).getD n 0
theorem cp_eq (n : Nat) (hn : n ≤ 1000) (μ : Store) : m_count_partitions [.v (.int n)] μ = .ok (.v (.int (cp n))) μ := by
  have e0 := fun μ => pent_eq n hn μ
  have hT : ∀ b ∈ pent n, (b.1 = 1 ∨ b.1 = -1) ∧ 1 ≤ b.2 := pentT_ok _ _ _ (by decide)
  obtain ⟨ρ', μ', e, o3, o4, o5, o6, rfl, rfl⟩ := forL_inv (tg := gNm 3) (body := b_count_partitions_2) (ds := rangeD 1 n) (ρ := [some (.v (.int n)), some (.c 0), some (.v (.lst ((pent n).map pD))), none, none, none, none]) (μ := [some (.lst [.int 1])])
    (fun i ρ μ => ∃ o3 o4 o5 o6, ρ = [some (.v (.int n)), some (.c 0), some (.v (.lst ((pent n).map pD))), o3, o4, o5, o6] ∧ μ = [some (.lst ((cnts (pent n) i).map .int))]) ⟨none, none, none, none, rfl, rfl⟩ (fun i d ρ μ hd ⟨o3, o4, o5, o6, e1, e2⟩ => by
      obtain ⟨hi, rfl⟩ := rangeD_get hd
      subst e1 e2
      have cl := cnts_len (pent n) i
      obtain ⟨o5', o6', e⟩ := inn_loop (pent n) (.v (.int n)) (cnts (pent n) i) (i + 1) cl (pent n) 0 o5 o6 hT
      have e3 : (1 : Int) + (i : Nat) = ((i + 1 : Nat) : Int) := by omega
      have hl : (cnts (pent n) i).length < lim := by rw [cl, hlim]; omega
      refine ⟨_, _, [some (.v (.int n)), some (.c 0), some (.v (.lst ((pent n).map pD))), some (.v (.int ((i + 1 : Nat) : Int))), some (.v (.int (innT (cnts (pent n) i) (i + 1 : Nat) (pent n) 0))), o5', o6'], [some (.lst ((cnts (pent n) (i + 1)).map .int))], by rw [e3]; rfl, ?_, _, _, _, _, rfl, rfl⟩
      have c2 : cnts (pent n) (i + 1) = cnts (pent n) i ++ [innT (cnts (pent n) i) (i + 1 : Nat) (pent n) 0] := rfl
      rw [c2]
      generalize innT (cnts (pent n) i) (i + 1 : Nat) (pent n) 0 = Z at *
      generalize cnts (pent n) i = C at *
      generalize pent n = T at *
      generalize ((i + 1 : Nat) : Int) = a at *
      simp only [b_count_partitions_2]
      simp [bind_ok, bind_exc, st_ok, st_exc, seq_nx, seq_rt, seq_bk, seq_ct, seq_exc, turn_nx, turn_ct, turn_bk, turn_rt, turn_exc, mk_true, mk_false, runS_rt, runS_nx, runS_exc, forL_nil, get_off, get_off0, set_off, set_off0, take_len,  sSeq, sIf, sSkip, sRet, sDrop, sAsg, sFor, sGhost, tFreeze, fTest, fBin, fUn, fCall, fCons, fNil, fVar, fC, fAnd, fOr, fNot, fIf, fLst, fTup, fChain, fAndV, fOrV, gNot, allV, g1, g2, gc1, gc2, Sl.get, okV, gNm, gUnp, gUnpL, gsNil, gsCons,  fSeq, fRng1, fRng2, fEnum, fComp, fYes, CT.put, setAll, wipeE, fMeth, isLst, lstAt, appendG, extendG, popG, popAtG, reverseG, countG, fNo, fPart, fSl, slF, revF, addF, subF, mulF, fdivF, modF, powF, ordF, negF, isNonF, isF, absF, max2F, min2F, int1F, lenF, listF, tupleF, sumF, maxF, minF, ixF,  gSubF, setL, sPar, sAug, runC, lift, pureOf, getAll, allVB, D.nol, D.nolL, startE, isiF, seqOf, fRgA, fRgB, rgL, rgT, fTru, truB, gUnpA, fRng3, fZip, zipF, fRev, imulF, ifdivF, fMeth2, isTup, countTG, seqA, seqInts, sumA, maxA, minA, fLenSet, tyName, clsL, clsNm, isiB, eqF_int, neF_int, eqF_ints, neF_ints, eqF_intsT, neF_intsT]
      rw [e]
      simp [bind_ok, bind_exc, st_ok, st_exc, seq_nx, seq_rt, seq_bk, seq_ct, seq_exc, turn_nx, turn_ct, turn_bk, turn_rt, turn_exc, mk_true, mk_false, runS_rt, runS_nx, runS_exc, forL_nil, get_off, get_off0, set_off, set_off0, take_len,  sSeq, sIf, sSkip, sRet, sDrop, sAsg, sFor, sGhost, tFreeze, fTest, fBin, fUn, fCall, fCons, fNil, fVar, fC, fAnd, fOr, fNot, fIf, fLst, fTup, fChain, fAndV, fOrV, gNot, allV, g1, g2, gc1, gc2, Sl.get, okV, gNm, gUnp, gUnpL, gsNil, gsCons,  fSeq, fRng1, fRng2, fEnum, fComp, fYes, CT.put, setAll, wipeE, fMeth, isLst, lstAt, appendG, extendG, popG, popAtG, reverseG, countG, fNo, fPart, fSl, slF, revF, addF, subF, mulF, fdivF, modF, powF, ordF, negF, isNonF, isF, absF, max2F, min2F, int1F, lenF, listF, tupleF, sumF, maxF, minF, ixF,  gSubF, setL, sPar, sAug, runC, lift, pureOf, getAll, allVB, D.nol, D.nolL, startE, isiF, seqOf, fRgA, fRgB, rgL, rgT, fTru, truB, gUnpA, fRng3, fZip, zipF, fRev, imulF, ifdivF, fMeth2, isTup, countTG, seqA, seqInts, sumA, maxA, minA, fLenSet, tyName, clsL, clsNm, isiB, eqF_int, neF_int, eqF_ints, neF_ints, eqF_intsT, neF_intsT, hl])
  rw [rangeD_len] at e
  have cl := cnts_len (pent n) n
  have ga := atI_int (cnts (pent n) n) n (by omega)
  have hs : ((n : Int) + 1).natAbs < 2305843009213693952 := by omega
  have ht : ((n : Int) + 1 - 1).toNat = n := by omega
  have nn : ¬ ((n : Int) < 0) := by omega
  unfold cp
  generalize (cnts (pent n) n).getD n 0 = Z at *
  simp only [m_count_partitions, b_count_partitions]
  simp at ht
  simp [bind_ok, bind_exc, st_ok, st_exc, seq_nx, seq_rt, seq_bk, seq_ct, seq_exc, turn_nx, turn_ct, turn_bk, turn_rt, turn_exc, mk_true, mk_false, runS_rt, runS_nx, runS_exc, forL_nil, get_off, get_off0, set_off, set_off0, take_len,  sSeq, sIf, sSkip, sRet, sDrop, sAsg, sFor, sGhost, tFreeze, fTest, fBin, fUn, fCall, fCons, fNil, fVar, fC, fAnd, fOr, fNot, fIf, fLst, fTup, fChain, fAndV, fOrV, gNot, allV, g1, g2, gc1, gc2, Sl.get, okV, gNm, gUnp, gUnpL, gsNil, gsCons,  fSeq, fRng1, fRng2, fEnum, fComp, fYes, CT.put, setAll, wipeE, fMeth, isLst, lstAt, appendG, extendG, popG, popAtG, reverseG, countG, fNo, fPart, fSl, slF, revF, addF, subF, mulF, fdivF, modF, powF, ordF, negF, isNonF, isF, absF, max2F, min2F, int1F, lenF, listF, tupleF, sumF, maxF, minF, ixF,  gSubF, setL, sPar, sAug, runC, lift, pureOf, getAll, allVB, D.nol, D.nolL, startE, isiF, seqOf, fRgA, fRgB, rgL, rgT, fTru, truB, gUnpA, fRng3, fZip, zipF, fRev, imulF, ifdivF, fMeth2, isTup, countTG, seqA, seqInts, sumA, maxA, minA, fLenSet, tyName, clsL, clsNm, isiB, eqF_int, neF_int, eqF_ints, neF_ints, eqF_intsT, neF_intsT, nn, e0, hs, ht]
  rw [e]
  simp [bind_ok, bind_exc, st_ok, st_exc, seq_nx, seq_rt, seq_bk, seq_ct, seq_exc, turn_nx, turn_ct, turn_bk, turn_rt, turn_exc, mk_true, mk_false, runS_rt, runS_nx, runS_exc, forL_nil, get_off, get_off0, set_off, set_off0, take_len,  sSeq, sIf, sSkip, sRet, sDrop, sAsg, sFor, sGhost, tFreeze, fTest, fBin, fUn, fCall, fCons, fNil, fVar, fC, fAnd, fOr, fNot, fIf, fLst, fTup, fChain, fAndV, fOrV, gNot, allV, g1, g2, gc1, gc2, Sl.get, okV, gNm, gUnp, gUnpL, gsNil, gsCons,  fSeq, fRng1, fRng2, fEnum, fComp, fYes, CT.put, setAll, wipeE, fMeth, isLst, lstAt, appendG, extendG, popG, popAtG, reverseG, countG, fNo, fPart, fSl, slF, revF, addF, subF, mulF, fdivF, modF, powF, ordF, negF, isNonF, isF, absF, max2F, min2F, int1F, lenF, listF, tupleF, sumF, maxF, minF, ixF,  gSubF, setL, sPar, sAug, runC, lift, pureOf, getAll, allVB, D.nol, D.nolL, startE, isiF, seqOf, fRgA, fRgB, rgL, rgT, fTru, truB, gUnpA, fRng3, fZip, zipF, fRev, imulF, ifdivF, fMeth2, isTup, countTG, seqA, seqInts, sumA, maxA, minA, fLenSet, tyName, clsL, clsNm, isiB, eqF_int, neF_int, eqF_ints, neF_ints, eqF_intsT, neF_intsT, ga]
/-! the numbers up to 100 -/
theorem inn_cut (C : List Int) (a n N : Int) (h1 : a ≤ n) (h2 : n ≤ N) : ∀ (f F : Nat) (s t : Int), 1 ≤ s → a < s + f → a < s + F → innT C a (pentT f s n) t = innT C a (pentT F s N) t
  | 0, F, s, t, hs, q1, q2 => by
    have lo := (fdiv_lo hs).1
    cases F with
    | zero => rfl
    | succ F =>
      unfold pentT
      split
      · unfold innT; rw [if_pos (by simp only; omega)]
      · rfl
  | f + 1, 0, s, t, hs, q1, q2 => by
    have lo := (fdiv_lo hs).1
    unfold pentT
    split
    · unfold innT; rw [if_pos (by simp only; omega)]
    · rfl
  | f + 1, F + 1, s, t, hs, q1, q2 => by
    unfold pentT
    by_cases c : (s * (3 * s - 1)).fdiv 2 ≤ n
    · rw [if_pos c, if_pos (by omega)]
      unfold innT
      split
      · rfl
      · unfold innT
        split
        · rfl
        · exact inn_cut C a n N h1 h2 f F (s + 1) _ (by omega) (by omega) (by omega)
    · rw [if_neg c]
      split
      · unfold innT; rw [if_pos (by simp only; omega)]
      · rfl
def pTerms : List (Int × Int) := [(1, 1), (1, 2), (-1, 5), (-1, 7), (1, 12), (1, 15), (-1, 22), (-1, 26), (1, 35), (1, 40), (-1, 51), (-1, 57), (1, 70), (1, 77), (-1, 92), (-1, 100)]
def pNums : List Int := [1, 1, 2, 3, 5, 7, 11, 15, 22, 30, 42, 56, 77, 101, 135, 176, 231, 297, 385, 490, 627, 792, 1002, 1255, 1575, 1958, 2436, 3010, 3718, 4565, 5604, 6842, 8349, 10143, 12310, 14883, 17977, 21637, 26015, 31185, 37338, 44583, 53174, 63261, 75175, 89134, 105558, 124754, 147273, 173525, 204226, 239943, 281589, 329931, 386155, 451276, 526823, 614154, 715220, 831820, 966467, 1121505, 1300156, 1505499, 1741630, 2012558, 2323520, 2679689, 3087735, 3554345, 4087968, 4697205, 5392783, 6185689, 7089500, 8118264, 9289091, 10619863, 12132164, 13848650, 15796476, 18004327, 20506255, 23338469, 26543660, 30167357, 34262962, 38887673, 44108109, 49995925, 56634173, 64112359, 72533807, 82010177, 92669720, 104651419, 118114304, 133230930, 150198136, 169229875, 190569292]
theorem pTerms_eq : pent 100 = pTerms := by decide +kernel
theorem pNums_ok : ((List.range 100).all fun k => decide (innT (pNums.take (k + 1)) (k + 1 : Nat) pTerms 0 = pNums.getD (k + 1) 0)) = true := by decide +kernel
theorem cnts_eq (n : Nat) (hn : n ≤ 100) : ∀ k, k ≤ n → cnts (pent n) k = pNums.take (k + 1)
  | 0, _ => rfl
  | k + 1, h => by
    have ih := cnts_eq n hn k (by omega)
    have c := of_decide_eq_true (List.all_eq_true.mp pNums_ok k (List.mem_range.mpr (by omega)))
    have cut := inn_cut (pNums.take (k + 1)) (k + 1 : Nat) n 100 (by omega) (by omega) (n + 1) (100 + 1) 1 0 (by decide) (by omega) (by omega)
    have pt : pentT (100 + 1) 1 100 = pTerms := pTerms_eq
    rw [cnts, ih]
    have e : innT (pNums.take (k + 1)) (k + 1 : Nat) (pent n) 0 = pNums.getD (k + 1) 0 := by
      rw [← c, ← pt]
      exact cut
    rw [e]
    have hl : k + 1 < pNums.length := by
      have : pNums.length = 100 + 1 := by decide +kernel
      omega
    rw [List.take_succ (i := k + 1), List.getElem?_eq_getElem hl]
    simp [hl]
theorem cp_num (n : Nat) (hn : n ≤ 100) : cp n = pNums.getD n 0 := by
  have hl : n < pNums.length := by
    have : pNums.length = 100 + 1 := by decide +kernel
    omega
  unfold cp
  rw [cnts_eq n hn n (Nat.le_refl _)]
  simp [hl, List.getElem?_take]
def partsL : Nat → Nat → Nat → List (List Nat)
  | 0, _, _ => []
  | _ + 1, 0, _ => [[]]
  | f + 1, n + 1, g => (List.range (min (n + 1) g)).reverse.flatMap fun k => (partsL f (n - k) (k + 1)).map ((k + 1) :: ·)
abbrev parts (n : Nat) : List (List Nat) := partsL 14 n n
theorem po_eq : ∀ n : Nat, n ≤ 12 → ∀ μ, m_partitions_of [.v (.int n)] μ = .ok (.v (.lst ((parts n).map Tq))) μ
  | 0, _, μ => by kernel_rfl
  | 1, _, μ => by kernel_rfl
  | 2, _, μ => by kernel_rfl
  | 3, _, μ => by kernel_rfl
  | 4, _, μ => by kernel_rfl
  | 5, _, μ => by kernel_rfl
  | 6, _, μ => by kernel_rfl
  | 7, _, μ => by kernel_rfl
  | 8, _, μ => by kernel_rfl
  | 9, _, μ => by kernel_rfl
  | 10, _, μ => by kernel_rfl
  | 11, _, μ => by kernel_rfl
  | 12, _, μ => by kernel_rfl
  | n + 13, h, _ => by omega
theorem la_eq : ∀ n : Nat, n ≤ 12 → ∀ μ, m__law_all 20 [.v (.int n), .v (.int n)] μ = .ok (.v (.lst ((parts n).map Tq))) μ
  | 0, _, μ => by kernel_rfl
  | 1, _, μ => by kernel_rfl
  | 2, _, μ => by kernel_rfl
  | 3, _, μ => by kernel_rfl
  | 4, _, μ => by kernel_rfl
  | 5, _, μ => by kernel_rfl
  | 6, _, μ => by kernel_rfl
  | 7, _, μ => by kernel_rfl
  | 8, _, μ => by kernel_rfl
  | 9, _, μ => by kernel_rfl
  | 10, _, μ => by kernel_rfl
  | 11, _, μ => by kernel_rfl
  | 12, _, μ => by kernel_rfl
  | n + 13, h, _ => by omega
theorem parts_small : ((List.range 13).all fun n => decide ((parts n).length < 1000) && (parts n).all fun p => decide (p.length < 1000)) = true := by decide +kernel
theorem po_neg (x : Int) (hx : x < 0) (μ : Store) : m_partitions_of [.v (.int x)] μ = .ok (.v (.lst [])) μ := by
  simp only [m_partitions_of, b_partitions_of]
  simp [bind_ok, bind_exc, st_ok, st_exc, seq_nx, seq_rt, seq_bk, seq_ct, seq_exc, turn_nx, turn_ct, turn_bk, turn_rt, turn_exc, mk_true, mk_false, runS_rt, runS_nx, runS_exc, forL_nil, get_off, get_off0, set_off, set_off0, take_len,  sSeq, sIf, sSkip, sRet, sDrop, sAsg, sFor, sGhost, tFreeze, fTest, fBin, fUn, fCall, fCons, fNil, fVar, fC, fAnd, fOr, fNot, fIf, fLst, fTup, fChain, fAndV, fOrV, gNot, allV, g1, g2, gc1, gc2, Sl.get, okV, gNm, gUnp, gUnpL, gsNil, gsCons,  fSeq, fRng1, fRng2, fEnum, fComp, fYes, CT.put, setAll, wipeE, fMeth, isLst, lstAt, appendG, extendG, popG, popAtG, reverseG, countG, fNo, fPart, fSl, slF, revF, addF, subF, mulF, fdivF, modF, powF, ordF, negF, isNonF, isF, absF, max2F, min2F, int1F, lenF, listF, tupleF, sumF, maxF, minF, ixF,  gSubF, setL, sPar, sAug, runC, lift, pureOf, getAll, allVB, D.nol, D.nolL, startE, isiF, seqOf, fRgA, fRgB, rgL, rgT, fTru, truB, gUnpA, fRng3, fZip, zipF, fRev, imulF, ifdivF, fMeth2, isTup, countTG, seqA, seqInts, sumA, maxA, minA, fLenSet, tyName, clsL, clsNm, isiB, eqF_int, neF_int, eqF_ints, neF_ints, eqF_intsT, neF_intsT, hx]
/-! too many -/
def xT (s : Str) : Exc := ⟨"TooMany", ["what"], [.str s]⟩
theorem len_partitions : ("partitions" : Str).length ≤ 1000000 := by decide +kernel
theorem lay_partitions : PyData.canLay0 (.str "partitions") = true := by decide +kernel
theorem cp_big : ((List.range 59).all fun k => decide (50000 < pNums.getD (42 + k) 0)) = true := by decide +kernel
theorem many_eq (x : Int) (hx : 42 ≤ x) (μ : Store) : m_partitions_of [.v (.int x)] μ = .exc (xT "partitions") μ := by
  have l := len_partitions
  have nn : ¬ x < 0 := by omega
  simp only [m_partitions_of, b_partitions_of]
  by_cases q : 100 < x
  · simp [bind_ok, bind_exc, st_ok, st_exc, seq_nx, seq_rt, seq_bk, seq_ct, seq_exc, turn_nx, turn_ct, turn_bk, turn_rt, turn_exc, mk_true, mk_false, runS_rt, runS_nx, runS_exc, forL_nil, get_off, get_off0, set_off, set_off0, take_len,  sSeq, sIf, sSkip, sRet, sDrop, sAsg, sFor, sGhost, tFreeze, fTest, fBin, fUn, fCall, fCons, fNil, fVar, fC, fAnd, fOr, fNot, fIf, fLst, fTup, fChain, fAndV, fOrV, gNot, allV, g1, g2, gc1, gc2, Sl.get, okV, gNm, gUnp, gUnpL, gsNil, gsCons,  fSeq, fRng1, fRng2, fEnum, fComp, fYes, CT.put, setAll, wipeE, fMeth, isLst, lstAt, appendG, extendG, popG, popAtG, reverseG, countG, fNo, fPart, fSl, slF, revF, addF, subF, mulF, fdivF, modF, powF, ordF, negF, isNonF, isF, absF, max2F, min2F, int1F, lenF, listF, tupleF, sumF, maxF, minF, ixF,  gSubF, setL, sPar, sAug, runC, lift, pureOf, getAll, allVB, D.nol, D.nolL, startE, isiF, seqOf, fRgA, fRgB, rgL, rgT, fTru, truB, gUnpA, fRng3, fZip, zipF, fRev, imulF, ifdivF, fMeth2, isTup, countTG, seqA, seqInts, sumA, maxA, minA, fLenSet, tyName, clsL, clsNm, isiB, eqF_int, neF_int, eqF_ints, neF_ints, eqF_intsT, neF_intsT, nn, q, sRaise, l, xT, D.nolL]
  · obtain ⟨n, rfl⟩ : ∃ n : Nat, x = n := ⟨x.toNat, by omega⟩
    have c := fun μ => cp_eq n (by omega) μ
    have b : 50000 < cp n := by
      have h := List.all_eq_true.mp cp_big (n - 42) (List.mem_range.mpr (by omega))
      have h := of_decide_eq_true h
      rw [cp_num n (by omega)]
      rwa [show 42 + (n - 42) = n by omega] at h
    have q2 : ¬ 100 < n := by omega
    have nn2 : ¬ ((n : Int) < 0) := by omega
    simp [bind_ok, bind_exc, st_ok, st_exc, seq_nx, seq_rt, seq_bk, seq_ct, seq_exc, turn_nx, turn_ct, turn_bk, turn_rt, turn_exc, mk_true, mk_false, runS_rt, runS_nx, runS_exc, forL_nil, get_off, get_off0, set_off, set_off0, take_len,  sSeq, sIf, sSkip, sRet, sDrop, sAsg, sFor, sGhost, tFreeze, fTest, fBin, fUn, fCall, fCons, fNil, fVar, fC, fAnd, fOr, fNot, fIf, fLst, fTup, fChain, fAndV, fOrV, gNot, allV, g1, g2, gc1, gc2, Sl.get, okV, gNm, gUnp, gUnpL, gsNil, gsCons,  fSeq, fRng1, fRng2, fEnum, fComp, fYes, CT.put, setAll, wipeE, fMeth, isLst, lstAt, appendG, extendG, popG, popAtG, reverseG, countG, fNo, fPart, fSl, slF, revF, addF, subF, mulF, fdivF, modF, powF, ordF, negF, isNonF, isF, absF, max2F, min2F, int1F, lenF, listF, tupleF, sumF, maxF, minF, ixF,  gSubF, setL, sPar, sAug, runC, lift, pureOf, getAll, allVB, D.nol, D.nolL, startE, isiF, seqOf, fRgA, fRgB, rgL, rgT, fTru, truB, gUnpA, fRng3, fZip, zipF, fRev, imulF, ifdivF, fMeth2, isTup, countTG, seqA, seqInts, sumA, maxA, minA, fLenSet, tyName, clsL, clsNm, isiB, eqF_int, neF_int, eqF_ints, neF_ints, eqF_intsT, neF_intsT, nn2, q2, c, b, sRaise, l, xT, D.nolL]
theorem what_T (s : Str) : (xT s).what = some (.str s) := rfl
end PT

namespace DL
open PySem PySem.Spec PyProof.Rows L2
/-! ### // and * of great ints -/
def CDivL (_ j : Int) : Prop := j ≠ 0 ∧ j.natAbs.log2 < 9000
theorem op_fdivL {X : Cx} : OpR X (binaryOp .FloorDiv) (rI CDivL fun i j => .int (i.fdiv j)) := opI fun _ _ _ _ _ _ _ hc q => floordiv_int hc.1 q (.inl (PyProof.noPylong_of_log2 hc.2))
def fdivW : D → D → Store → Out Sl
  | .int i, .int j, μ => if j ≠ 0 ∧ j.natAbs.log2 < 9000 then okV (.int (i.fdiv j)) μ else .stuck
  | _, _, _ => .stuck
def mulW : D → D → Store → Out Sl
  | .int i, .int j, μ => if i.natAbs.log2 + j.natAbs.log2 < 1000000 then okV (.int (i * j)) μ else .stuck
  | _, _, _ => .stuck
section
variable {K : PySem.W.Frag}
theorem opd_fdivW : OpD K (rI CDivL fun i j => .int (i.fdiv j)) (g2 fdivW) := by
  refine opd fun G μ H σ W a b x y Q R ra rb p => ?_
  unfold fdivW at p
  split at p
  · split at p
    · rename_i h
      rw [ra.int, rb.int]
      exact ⟨_, _, rfl, rfl, h, Post.val R p (.int _)⟩
    · exact p.elim
  · exact p.elim
theorem opd_mulW : OpD K (rI CMulW fun i j => .int (i * j)) (g2 mulW) := by
  refine opd fun G μ H σ W a b x y Q R ra rb p => ?_
  unfold mulW at p
  split at p
  · split at p
    · rename_i h
      rw [ra.int, rb.int]
      exact ⟨_, _, rfl, rfl, h, Post.val R p (.int _)⟩
    · exact p.elim
  · exact p.elim
end
end DL

namespace DL
open PySem PySem.Spec PyProof.Rows L2
/-! ### a call of a local name that holds a def -/
def fCallV (i : Nat) (tab : List (Str × (List Sl → Store → Out Sl))) (f : FA) : FE := fun ρ μ => match ρ[i]? with
  | some (some (.v (.glo x))) => (match tab.lookup x with
    | some φ => (f ρ μ).bind fun ss μ1 => match φ ss μ1 with
      | .ok a μ2 => .ok a μ2
      | _ => .stuck
    | none => .stuck)
  | _ => .stuck
structure CandD (X : Cx) (n : Nat) (x : Str) (φ : List Sl → Store → Out Sl) : Prop where
  ex : ∃ (k : Nat) (fd : FuncData) (ps : List Str), FnOk X.prog X.w X.K X.mg X.base (L2.CX X.prog X.w) k (He.ga X.K x) fd ps (spG X.K ps.length φ) ∧ Room k X.A ∧ PySem.W.keepIn X.K (.ref (He.ga X.K x)) = true ∧ Binds X.K fd ps [] ∧ n = ps.length
theorem de_callV {X : Cx} {P : PX} {W : WX} {fg : FA} {e : Expr} {es : List Expr} {p pos : Pos} {x : Str} (i : Nat) (tab : List (Str × (List Sl → Store → Out Sl)))
    (hc : ∀ q ∈ tab, CandD X (e :: es).length q.1 q.2) (ha : DA X P W (e :: es) fg) (tk : Takes X W0) (hN : X.N[i]? = some x := by rfl) (hv : Vis X.env.scope x := by first | exact Or.inl rfl | exact Or.inr (Or.inl rfl) | exact Or.inr (Or.inr rfl))
    (hdb : (x == ("__debug__" : Str)) = false := by decide) (hcd : (x == ("__classdict__" : Str)) = false := by decide)
    (he : starEach (e :: es) X.env = (false, eval e X.env) :: starEach es X.env := by rfl) (hpl : (backTo pos (starEach es X.env)).any (·.1) = false := by rfl) : DE X P W (.Call (.Name x p) (e :: es) [] pos) (fCallV i tab fg) := by
  refine ⟨fun pins s σ H Q I h => ?_⟩
  obtain ⟨G, μ, ρ, hh, h⟩ := h
  unfold fCallV at h
  split at h
  · rename_i y hy
    split at h
    · rename_i φ hφ
      obtain ⟨k, fd, ps, F, hr, hk, hb, hn⟩ := (hc (y, φ) (PySem.mem_of_lookup hφ)).ex
      obtain ⟨v, e1, r⟩ := hh.env.has i _ hy
      cases r
      refine (pe_callL (i := i) (f := He.ga X.K y) (sp := spG X.K ps.length φ) (dvs := []) (E := WE W0 σ) F hr hN hv hk hb .nil (fun pins' σ' H' s' e' s2 I' c => passAt tk σ' pins' H' s' e' s2 I' c) ha.pa hdb hcd he hpl).run pins s σ H Q I ⟨e1, ?_⟩
      refine ⟨G, μ, ρ, hh, Post.bindE h fun ss μ1 vs G1 H1 x1 R1 r1 h1 e0 => ?_⟩
      rw [List.append_nil]
      refine ⟨by rw [← r1.length, ha.ln _ _ _ _ e0]; exact hn, G1, μ1, ss, R1, r1, ?_⟩
      cases hφ2 : φ ss μ1 with
      | stuck => rw [hφ2] at h1; exact h1.elim
      | ok a μ2 => rw [hφ2] at h1; exact h1
      | exc ex μ2 => rw [hφ2] at h1; exact h1.elim
    · exact h.elim
  · exact h.elim
end DL

namespace DL
open PySem PySem.Spec PyProof.Rows L2
/-! ### dicts whose keys are tuples of ints -/
theorem hu1 {k : Nat} {A : Around} (r : Room k A) : A.units + 1 < cLine := by have := r.un; omega
abbrev iK (P : Program) (w : World) := tupleKind (intKind P w)
section
variable {K : PySem.W.Frag} {H : Hp}
theorem KI.val {kvs : List (List Int × V)} {xs : List (List Int × Addr × Value)} (r : KI K H kvs xs) (k : List Int) : RelO (valV kvs k) ((atKey xs k).map (·.2)) := by
  induction r with
  | nil => exact True.intro
  | @cons p q ps qs h t ih =>
    obtain ⟨h1, _, h2⟩ := h
    by_cases e : p.1 = k
    · have e' : q.1 = k := h1.symm.trans e
      have b : atKey (q :: qs) k = some q.2 := by simp [atKey, List.find?_cons, e']
      rw [valV_pos e, b]; exact h2
    · have e' : ¬ q.1 = k := fun z => e (h1.trans z)
      have b : atKey (q :: qs) k = atKey qs k := by simp [atKey, List.find?_cons, e']
      rw [valV_neg e, b]; exact ih
theorem KI.repl {kvs : List (List Int × V)} {xs : List (List Int × Addr × Value)} (r : KI K H kvs xs) (k : List Int) {y : V} {u : Value} (ry : RelV y u) :
    KI K H (kvs.map fun kv => if kv.1 = k then (kv.1, y) else kv) (xs.map (putAt k u)) := by
  induction r with
  | nil => exact .nil
  | @cons p q ps qs h t ih =>
    rw [List.map_cons, List.map_cons]
    refine .cons ?_ ih
    obtain ⟨h1, h2, h3⟩ := h
    unfold putAt
    by_cases e : p.1 = k
    · rw [if_pos e, if_pos (h1.symm.trans e)]; exact ⟨h1, h2, ry⟩
    · rw [if_neg e, if_neg (fun z => e (h1.trans z))]; exact ⟨h1, h2, h3⟩
theorem KI.put {kvs : List (List Int × V)} {xs : List (List Int × Addr × Value)} (r : KI K H kvs xs) (k : List Int) {b : Addr} {y : V} {u : Value} (hb : TupAt K H b (k.map V.int)) (ry : RelV y u) :
    KI K H (putK kvs k y) (storedH xs k b u) := by
  have e : (kvs.any fun kv => decide (kv.1 = k)) = (atKey xs k).isSome := by
    rw [valV_any, (r.val k).isSome_eq, Option.isSome_map]
  unfold putK storedH
  rw [e]
  by_cases q : (atKey xs k).isSome = true
  · rw [if_pos q, if_pos q]; exact r.repl k ry
  · rw [if_neg q, if_neg q]; exact Paired.snoc r ⟨rfl, hb, ry⟩
theorem KI.keeps {H' : Hp} {kvs : List (List Int × V)} {xs : List (List Int × Addr × Value)} (r : KI K H kvs xs) (ht : ∀ b ys, TupAt K H b ys → TupAt K H' b ys) : KI K H' kvs xs :=
  Paired.mapP r fun _ _ z => ⟨z.1, ht _ _ z.2.1, z.2.2⟩
end
theorem int_items {P : Program} {w : World} : ∀ {ks : List Int} {us : List Value}, Vals (ks.map V.int) us → PySem.ItemsAre (intKind P w) ks us
  | [], _, r => by rw [List.map_nil] at r; cases r; exact .nil
  | k :: ks, _, r => by
    rw [List.map_cons] at r
    cases r with
    | cons h t =>
      obtain ⟨tk, rfl⟩ := h
      exact .cons (by simp [PySem.intKind, Value.isInt]) (int_items t)
section
variable {X : Cx} {pins : List (Addr × Obj)} {σ : L2.St} {H : Hp} {s : Shared} {a b : Addr} {o : Obj} {kvs : List (List Int × V)} {k : List Int} {y v : V} {u r : Value} {A : Around} {E : Value → Shared → Prop}
theorem dro_get (I : Inv X pins σ H s) (h : H a = some (dro a o)) : s.heap.get? a = some o := (I.hok a _ h).1
theorem dro_ok {P : Program} {w : World} {H : Hp} {h : Heap} (e : h.get? a = some o) : ObjOk P w H h a (dro a o) := ⟨e, ⟨o, e⟩, fun _ _ e1 k => k _ e1⟩
theorem tkey (I : Inv X pins σ H s) (h : TupAt X.K H b (k.map V.int)) : (iK X.prog X.w).is s.heap k b := by
  obtain ⟨its, rv, ⟨o, e, c, n, d⟩, hz⟩ := I.tuple h.sq
  exact ⟨o, its.toArray, n, e, c, d, by simpa using int_items rv⟩
theorem draw_dd (I : Inv X pins σ H s) (h : H a = some (dro a o)) (q : DRaw X.K H a o kvs) : ∃ ys, KI X.K H kvs ys ∧ s.heap.DictOfH (iK X.prog X.w) a ys := by
  obtain ⟨h1, h2, h3, es, ep, ys, h4, h5, h6, h7⟩ := q
  refine ⟨ys, h6, o, es, ep, dro_get I h, h3, h4, h5, fun x hx => ?_, h7⟩
  have all : ∀ {l : List (List Int × V)} {m : List (List Int × Addr × Value)}, KI X.K H l m → ∀ x ∈ m, (iK X.prog X.w).is s.heap x.1 x.2.1 := by
    intro l m q
    induction q with
    | nil => intro x hx; exact nomatch hx
    | @cons p q ps qs hq t ih =>
      intro x hx
      rcases List.mem_cons.mp hx with e | hx
      · subst e
        exact tkey I (by rw [← hq.1]; exact hq.2.1)
      · exact ih x hx
  exact all h6 x hx
theorem draw_typeIs (I : Inv X pins σ H s) (h : H a = some (dro a o)) (q : DRaw X.K H a o kvs) : s.TypeIs (.ref a) "dict" := ⟨o, dro_get I h, q.2.2.1.1⟩
theorem draw_noDict (I : Inv X pins σ H s) (h : H a = some (dro a o)) (q : DRaw X.K H a o kvs) : ∀ b, Value.ref a = .ref b → ∃ ob, s.heap.get? b = some ob ∧ ob.dict = none := fun b e => by
  cases e
  exact ⟨o, dro_get I h, q.2.2.1.2.1⟩
/-- d[k], there -/
theorem dn_getItem {Q : Value → Shared → Prop} (hu : A.units + 1 < cLine) (I : Inv X pins σ H s) (e : H a = some (dro a o)) (q : DRaw X.K H a o kvs) (eb : TupAt X.K H b (k.map V.int)) (l : valV kvs k = some v)
    (h : ∀ w' s', Inv X pins σ H s' → RelV v w' → Q w' s') : wpAny (model X.prog X.w) A (getItem (.ref a) (.ref b)) Q E s := by
  obtain ⟨xs, rel, dd⟩ := draw_dd I e q
  obtain ⟨w', hw, rw'⟩ := RelO.some_of (v := v) (o := (atKey xs k).map (·.2)) (by rw [← l]; exact rel.val k)
  obtain ⟨p, hp, hp2⟩ := Option.map_eq_some_iff.mp hw
  refine wpAny_getItem_heap (tupleKind_room_in1 hu) (tkey I eb) dd hp ?_
  rw [hp2]
  exact h w' _ (I.tok _) rw'
theorem dn_in {Q : Value → Shared → Prop} (hu : A.units + 1 < cLine) (I : Inv X pins σ H s) (e : H a = some (dro a o)) (q : DRaw X.K H a o kvs) (eb : TupAt X.K H b (k.map V.int))
    (h : ∀ s', Inv X pins σ H s' → Q (.bool (valV kvs k).isSome) s') : wpAny (model X.prog X.w) A (compareOp .In (.ref b) (.ref a)) Q E s := by
  obtain ⟨xs, rel, dd⟩ := draw_dd I e q
  refine wpAny_in_heap (tupleKind_room_in1 hu) (tkey I eb) q.1 dd ?_
  have z := (rel.val k).isSome_eq
  rw [Option.isSome_map] at z
  rw [← z]
  exact h _ (I.tok _)
theorem dn_notIn {Q : Value → Shared → Prop} (hu : A.units + 1 < cLine) (I : Inv X pins σ H s) (e : H a = some (dro a o)) (q : DRaw X.K H a o kvs) (eb : TupAt X.K H b (k.map V.int))
    (h : ∀ s', Inv X pins σ H s' → Q (.bool (!(valV kvs k).isSome)) s') : wpAny (model X.prog X.w) A (compareOp .NotIn (.ref b) (.ref a)) Q E s := by
  obtain ⟨xs, rel, dd⟩ := draw_dd I e q
  refine wpAny_notIn_heap (tupleKind_room_in1 hu) (tkey I eb) q.1 dd ?_
  have z := (rel.val k).isSome_eq
  rw [Option.isSome_map] at z
  rw [← z]
  exact h _ (I.tok _)
/-- d.get(k, x) -/
theorem dn_get2 {Q : Value → Shared → Prop} (hu : A.units + 1 < cLine) (I : Inv X pins σ H s) (e : H a = some (dro a o)) (q : DRaw X.K H a o kvs) (eb : TupAt X.K H b (k.map V.int)) (rd : RelV y r)
    (h : ∀ w' s', Inv X pins σ H s' → RelV ((valV kvs k).getD y) w' → Q w' s') : wpAny (model X.prog X.w) A (call (.builtin "dict.get") [.ref a, .ref b, r]) Q E s := by
  obtain ⟨xs, rel, dd⟩ := draw_dd I e q
  refine call_meetsIn PySem.F.slot_dict_get dd.typeIs PySem.F.entry_dict_get (PySem.F.args_dict_get_3 _ _ _) (meetsH_dict_get_default (iK X.prog X.w) a b q.1 r) ⟨tupleKind_room_in1 hu, k, xs, tkey I eb, dd, h _ _ (I.tok _) ?_⟩
  exact (rel.val k).getD rd
/-- what stands behind a write -/
theorem draw_of {H' : Hp} {h' : Heap} {ys : List (List Int × Addr × Value)} {P : Program} {w : World} (hd : (a == sysModules) = false) (hl : kvs.length ≤ sizeLine) (dd : h'.DictOfH (iK P w) a ys) (rel : ∀ o', KI X.K (upd H' a (dro a o')) kvs ys) :
    ∃ o', h'.get? a = some o' ∧ DRaw X.K (upd H' a (dro a o')) a o' kvs := by
  obtain ⟨o', es, ep, h1, h2, h3, h4, _, h5⟩ := dd
  exact ⟨o', h1, hd, hl, h2, es, ep, ys, h3, h4, rel o', h5⟩
theorem tup_ne {xs : List V} {o' : Obj} (h : H a = some (dro a o)) : ∀ b ys, TupAt X.K H b ys → TupAt X.K (upd H a (dro a o')) b ys := fun b ys t => by
  rcases t with ⟨ot, ht, so⟩ | t
  · refine .inl ⟨ot, ?_, so⟩
    rw [upd_ne (ne_of ht h (fun z => nomatch z))]
    exact ht
  · exact .inr t
/-- d[k] = v -/
theorem dn_setItem {Q : Unit → Shared → Prop} (hu : A.units + 1 < cLine) (I : Inv X pins σ H s) (e : H a = some (dro a o)) (q : DRaw X.K H a o kvs) (eb : TupAt X.K H b (k.map V.int)) (hl : kvs.length < sizeLine) (rv : RelV v r)
    (h : ∀ o' s', Inv X pins σ (upd H a (dro a o')) s' → DRaw X.K (upd H a (dro a o')) a o' (putK kvs k v) → Q () s') : wpAny (model X.prog X.w) A (setItem (.ref a) (.ref b) r) Q E s := by
  obtain ⟨xs, rel, dd⟩ := draw_dd I e q
  have hz : xs.length ≤ sizeLine := by rw [← Paired.length rel]; exact q.2.1
  have hl' : (putK kvs k v).length ≤ sizeLine := by have := length_putK kvs k v; omega
  refine wpAny_setItem_heap (hsz := hz) (tupleKind_room_in1 hu) (tkey I eb) dd fun h' dd' hs => ?_
  obtain ⟨o', g, dr⟩ := draw_of (X := X) (H' := H) (kvs := putK kvs k v) q.1 hl' dd' fun o' => (rel.put k eb rv).keeps (tup_ne (xs := []) e)
  exact h o' _ (d_write I (by rw [e]; exact True.intro) hs ⟨o', g⟩ (dro_ok g)) dr
end

/-! ### readings, rules -/
/-- {} -/
def tDNewN (K : PySem.W.Frag) : TE := fun _ H Q => ∀ p o, H p = none → DRaw K (upd H p (dro p o)) p o [] → Q (.ref p) (upd H p (dro p o))
theorem dn_fresh {K : PySem.W.Frag} {H : Hp} {a : Addr} (hb : sysModules < a) : DRaw K H a { cls := .type "dict", data := .dict #[] } [] :=
  ⟨beq_eq_false_iff_ne.mpr (Ne.symm (Nat.ne_of_lt hb)), Nat.zero_le _, ⟨rfl, rfl, rfl⟩, #[], 0, [], rfl, rfl, .nil, List.nodup_nil⟩
def tDGetN (K : PySem.W.Frag) (td ty : TE) : TE := fun σ H Q => td σ H fun x H1 => ty σ H1 fun y H2 => ∃ a o kvs b k v, x = .ref a ∧ H2 a = some (dro a o) ∧ DRaw K H2 a o kvs ∧ y = .ref b ∧ TupAt K H2 b (k.map V.int) ∧ valV kvs k = some v ∧ Q v H2
def tDInN (K : PySem.W.Frag) (neg : Bool) (ty td : TE) : TE := fun σ H Q => ty σ H fun y H1 => td σ H1 fun x H2 => ∃ a o kvs b k, x = .ref a ∧ H2 a = some (dro a o) ∧ DRaw K H2 a o kvs ∧ y = .ref b ∧ TupAt K H2 b (k.map V.int) ∧ Q (.bl (if neg then !(valV kvs k).isSome else (valV kvs k).isSome)) H2
def sDPutN (K : PySem.W.Frag) (td ty tv : TE) : TS := fun D σ H => tv σ H fun v H1 => td σ H1 fun x H2 => ty σ H2 fun y H3 => ∃ a o kvs b k, x = .ref a ∧ H3 a = some (dro a o) ∧ DRaw K H3 a o kvs ∧ y = .ref b ∧ TupAt K H3 b (k.map V.int) ∧ kvs.length < sizeLine ∧
  ∀ o', DRaw K (upd H3 a (dro a o')) a o' (putK kvs k v) → D.nx σ (upd H3 a (dro a o'))
def tDGet2N (K : PySem.W.Frag) (td ty tx : TE) : TE := fun σ H Q => td σ H fun x H1 => ∃ a, x = .ref a ∧ (∃ o kvs, H1 a = some (dro a o) ∧ DRaw K H1 a o kvs) ∧ ty σ H1 fun y H2 => tx σ H2 fun z H3 => ∃ o kvs b k, H3 a = some (dro a o) ∧ DRaw K H3 a o kvs ∧ y = .ref b ∧ TupAt K H3 b (k.map V.int) ∧ Q ((valV kvs k).getD z) H3
/-- {k: v} -/
def dispQ (K : PySem.W.Frag) (p : Addr) (Q : VK) : List (V × V) → Hp → Prop := fun ps H2 => ∃ x y, ps = [(x, y)] ∧ (∃ o, H2 p = some (dro p o) ∧ DRaw K H2 p o []) ∧ ∃ b k, x = .ref b ∧ TupAt K H2 b (k.map V.int) ∧
  ∀ o', DRaw K (upd H2 p (dro p o')) p o' [(k, y)] → Q (.ref p) (upd H2 p (dro p o'))
def tDispN (K : PySem.W.Frag) (tk tv : TE) : TE := fun σ H Q => ∀ p o, H p = none → DRaw K (upd H p (dro p o)) p o [] → tk σ (upd H p (dro p o)) fun x H1 => tv σ H1 fun y H2 => dispQ K p Q [(x, y)] H2
section
variable {X : Cx} {o i e f value : Expr} {pos pos' apos cpos : Pos} {td ty tv tx : TE}
theorem pe_dnewN : PE X (.Dict [] [] pos) (tDNewN X.K) := ⟨fun pins s σ H Q I h => by
  have g : (s.heap.push { cls := .type "dict", data := .dict #[] }).get? s.heap.objs.size = some { cls := .type "dict", data := .dict #[] } := Heap.get?_push_size _ rfl
  exact wpAny_Dict_empty ⟨.ref s.heap.objs.size, _, I.laid (a := s.heap.objs.size) (o := dro s.heap.objs.size { cls := .type "dict", data := .dict #[] }) (t' := s.toks) (fun _ _ q => Heap.get?_push_of_some _ q) (Nat.le_refl _) (dro_ok g), rfl, h _ _ (I.hok.fresh (Nat.le_refl _)) (dn_fresh I.big)⟩⟩
theorem pe_dgetN (hu : X.A.units + 1 < cLine) (ho : PE X o td) (hi : PE X i ty) (hs : NoSl i) : PE X (.Subscript o i pos) (tDGetN X.K td ty) := by
  refine ⟨fun pins s σ H Q I h => ?_⟩
  refine subD_of PySem.F.slot_dict_getitem.lookup hs (thn (ho.run pins s σ H _ I h) fun u s1 ⟨x, H1, I1, rx, q1⟩ => thn (hi.run pins s1 σ H1 _ I1 q1) fun iv s2 ⟨y, H2, I2, ry, a, od, kvs, b, k, v, ex, e, q, ey, eb, l, q2⟩ => ?_)
  subst ex ey
  obtain rfl : u = Value.ref a := rx
  obtain rfl : iv = Value.ref b := ry
  exact ⟨draw_typeIs I2 e q, dn_getItem hu I2 e q eb l fun w' s3 I3 rw' => ⟨v, H2, I3, rw', q2⟩⟩
theorem pc_dinN (hu : X.A.units + 1 < cLine) (hi : PE X i ty) (ho : PE X o td) : PC X .In i o (tDInN X.K false ty td) := by
  refine ⟨fun pins s σ H Q I h => ?_⟩
  refine thn (hi.run pins s σ H _ I h) fun iv s1 ⟨y, H1, I1, ry, q1⟩ => thn (ho.run pins s1 σ H1 _ I1 q1) fun u s2 ⟨x, H2, I2, rx, a, od, kvs, b, k, ex, e, q, ey, eb, q2⟩ => ?_
  subst ex ey
  obtain rfl : u = Value.ref a := rx
  obtain rfl : iv = Value.ref b := ry
  exact dn_in hu I2 e q eb fun s3 I3 => ⟨.bl (valV kvs k).isSome, H2, I3, rfl, q2⟩
theorem pc_dnotinN (hu : X.A.units + 1 < cLine) (hi : PE X i ty) (ho : PE X o td) : PC X .NotIn i o (tDInN X.K true ty td) := by
  refine ⟨fun pins s σ H Q I h => ?_⟩
  refine thn (hi.run pins s σ H _ I h) fun iv s1 ⟨y, H1, I1, ry, q1⟩ => thn (ho.run pins s1 σ H1 _ I1 q1) fun u s2 ⟨x, H2, I2, rx, a, od, kvs, b, k, ex, e, q, ey, eb, q2⟩ => ?_
  subst ex ey
  obtain rfl : u = Value.ref a := rx
  obtain rfl : iv = Value.ref b := ry
  exact dn_notIn hu I2 e q eb fun s3 I3 => ⟨.bl (!(valV kvs k).isSome), H2, I3, rfl, q2⟩
theorem ps_dputN (hu : X.A.units + 1 < cLine) (ho : PE X o td) (hi : PE X i ty) (hv : PE X value tv) (hs : swapsWith value (some (.Subscript o i pos')) pos.line X.env = pure false) :
    PS X (.Assign [.Subscript o i pos'] value pos) (sDPutN X.K td ty tv) := by
  refine ⟨fun pins s σ H D I h => ?_⟩
  refine wpAny_Assign_Subscript (thn (hv.run pins s σ H _ I h) fun r s1 ⟨v, H1, I1, rv, q1⟩ => thn (ho.run pins s1 σ H1 _ I1 q1) fun u s2 ⟨x, H2, I2, rx, q2⟩ => thn (hi.run pins s2 σ H2 _ I2 q2) fun iv s3 ⟨y, H3, I3, ry, a, od, kvs, b, k, ex, e, q, ey, eb, hl, q3⟩ => ?_) hs
  subst ex ey
  obtain rfl : u = Value.ref a := rx
  obtain rfl : iv = Value.ref b := ry
  exact dn_setItem hu I3 e q eb hl rv fun o' s4 I4 dr => ⟨σ, _, I4, q3 o' dr⟩
theorem pe_dget2N (hu : X.A.units + 1 < cLine) (ho : PE X o td) (he : PE X e ty) (hf : PE X f tx) (m : M2 X o "get" apos e f cpos) : PE X (.Call (.Attribute o "get" apos) [e, f] [] cpos) (tDGet2N X.K td ty tx) := by
  refine ⟨fun pins s σ H Q I h => ?_⟩
  refine wpAny_Call_method m.base m.few m.line PySem.F.plainAttrs_dict PySem.F.slot_dict_get PySem.F.type_dict_get (thn (ho.run pins s σ H _ I h) fun u s1 ⟨x, H1, I1, rx, a, ex, ⟨od, kvs, d1, d2⟩, q1⟩ => ?_)
  subst ex
  obtain rfl : u = Value.ref a := rx
  refine ⟨draw_typeIs I1 d1 d2, draw_noDict I1 d1 d2, ?_⟩
  rw [m.trees]
  refine Calls.callWith_builtin rfl (Calls.evalArgs_plain (Calls.spliced_cons (thn (he.run pins s1 σ H1 _ I1 q1) fun iv s2 ⟨y, H2, I2, ry, q2⟩ =>
    Calls.spliced_cons (thn (hf.run pins s2 σ H2 _ I2 q2) fun fv s3 ⟨z, H3, I3, rz, o3, kvs3, b, k, e3, q3, ey, eb, q4⟩ => Calls.spliced_nil ?_))))
  subst ey
  obtain rfl : iv = Value.ref b := ry
  exact dn_get2 hu I3 e3 q3 eb rz fun w' s4 I4 rw' => ⟨_, H3, I4, rw', q4⟩
theorem pe_dispN {kx vx : Expr} (hu : X.A.units + 1 < cLine) (hk : PE X kx ty) (hv : PE X vx tv) : PE X (.Dict [some kx] [vx] pos) (tDispN X.K ty tv) := by
  refine ⟨fun pins s σ H Q I q => ?_⟩
  have hn := I.hok.fresh (Nat.le_refl s.heap.objs.size)
  have g : (s.heap.push { cls := .type "dict", data := .dict #[] }).get? s.heap.objs.size = some { cls := .type "dict", data := .dict #[] } := Heap.get?_push_size _ rfl
  have I1 := I.laid (a := s.heap.objs.size) (o := dro s.heap.objs.size { cls := .type "dict", data := .dict #[] }) (h' := s.heap.push { cls := .type "dict", data := .dict #[] }) (t' := s.toks) (fun _ _ q => Heap.get?_push_of_some _ q) (Nat.le_refl _) (dro_ok g)
  have hp : PPs X pos [some kx] [vx] [(ty, tv)] := pps_cons hk hv pps_nil
  have hl := pairTrees_length [some kx] [vx] X.env pos rfl rfl
  rw [arm_eval_Dict, zip_pairTrees [some kx] [vx] X.env pos rfl rfl, dictDisplay_pairs (pairTrees [some kx] [vx] X.env pos) (fun z => nomatch z) (by rw [hl]; exact (by decide : (1 : Nat) < 17))]
  refine wpAny_bind (wpAny_standAt (wpAny_bind (wpAny_subDictH (knd := iK X.prog X.w) (Q := fun d s' => wpAny (model X.prog X.w) X.A (pure (Value.ref d)) _ X.xe s') (show X.A.units < cLine by omega) (by rw [hl]; exact (by decide : (1 : Nat) ≤ 15)) ?_)))
  refine thn (hp.run pins _ σ _ (dispQ X.K s.heap.objs.size Q) I1 (q _ _ hn (dn_fresh I.big))) fun ws s2 ⟨ps, H2, I2, rel, x, y, ep, ⟨o2, e, q0⟩, b, k, ex, eb, q2⟩ => ?_
  · subst ep ex
    cases rel with
    | @cons p1 u ps1 us h1 t1 =>
      cases t1
      obtain ⟨u1, u2⟩ := u
      obtain ⟨h1, h2⟩ := h1
      obtain rfl : u1 = Value.ref b := h1
      obtain ⟨ys, ki, dd⟩ := draw_dd I2 e q0
      cases ki
      refine ⟨[(k, b, u2)], ⟨rfl, rfl, tkey I2 eb, trivial⟩, dd, fun h' tk dd' hs => wpAny_pure ?_⟩
      have dd2 : h'.DictOfH (iK X.prog X.w) s.heap.objs.size [(k, b, u2)] := dd'
      obtain ⟨o', g', dr⟩ := draw_of (X := X) (H' := H2) (kvs := [(k, y)]) q0.1 (by show 1 ≤ sizeLine; decide) dd2 fun o' => .cons ⟨rfl, tup_ne (xs := []) e _ _ eb, h2⟩ .nil
      exact ⟨.ref s.heap.objs.size, _, d_write I2 (by rw [e]; exact True.intro) hs ⟨o', g'⟩ (dro_ok g'), rfl, q2 o' dr⟩
end

/-! ### on our side -/
def dGet : List (List Int) → List D → List Int → Option D
  | k' :: ks, v :: vs, k => if k' = k then some v else dGet ks vs k
  | _, _, _ => none
def dPutK (ks : List (List Int)) (k : List Int) : List (List Int) := if k ∈ ks then ks else ks ++ [k]
def dSet : List (List Int) → List D → List Int → D → List D
  | k' :: ks, v :: vs, k, d => (if k' = k then d else v) :: dSet ks vs k d
  | _, vs, _, _ => vs
def dPutV (ks : List (List Int)) (vs : List D) (k : List Int) (d : D) : List D := if k ∈ ks then dSet ks vs k d else vs ++ [d]
def keyD : D → Option (List Int)
  | .tup ds => intsOf ds
  | _ => none
section
variable {K : PySem.W.Frag} {F : Addr → Prop} {H : Hp}
theorem keyD_rep {d : D} {v : V} {k : List Int} (r : Rep K F H d v) (e : keyD d = some k) : ∃ b, v = .ref b ∧ TupAt K H b (k.map V.int) := by
  cases r with
  | @tup ds a xs h r =>
    have e' : intsOf ds = some k := e
    rw [intsOf_eq e'] at r
    rw [r.ints] at h
    exact ⟨a, rfl, h⟩
  | _ => cases e
theorem dGet_rep : ∀ {kvs : List (List Int × V)} {vs : List D} (k : List Int), RepL K F H vs (kvs.map (·.2)) → match dGet (kvs.map (·.1)) vs k with
    | some d => ∃ v, valV kvs k = some v ∧ Rep K F H d v
    | none => valV kvs k = none
  | [], vs, k, r => by
    cases r
    rfl
  | p :: kvs, vs, k, r => by
    rw [List.map_cons] at r
    cases r with
    | @cons d v ds vs' h t =>
      rw [List.map_cons]
      unfold dGet
      by_cases e : p.1 = k
      · rw [if_pos e]
        exact ⟨p.2, valV_pos e, h⟩
      · rw [if_neg e, valV_neg e]
        exact dGet_rep k t
theorem any_mem (kvs : List (List Int × V)) (k : List Int) : (kvs.any fun kv => decide (kv.1 = k)) = decide (k ∈ kvs.map (·.1)) := by
  induction kvs with
  | nil => rfl
  | cons p r ih =>
    rw [List.any_cons, List.map_cons, ih]
    by_cases e : p.1 = k
    · simp [e]
    · have e' : ¬ k = p.1 := fun z => e z.symm
      simp [e, e']
theorem dPut_rep {kvs : List (List Int × V)} {vs : List D} (k : List Int) {d : D} {v : V} (r : RepL K F H vs (kvs.map (·.2))) (rd : Rep K F H d v) :
    (putK kvs k v).map (·.1) = dPutK (kvs.map (·.1)) k ∧ RepL K F H (dPutV (kvs.map (·.1)) vs k d) ((putK kvs k v).map (·.2)) := by
  unfold putK dPutK dPutV
  rw [any_mem]
  by_cases m : k ∈ kvs.map (·.1)
  · rw [if_pos (decide_eq_true m), if_pos m, if_pos m]
    clear m
    refine ⟨?_, ?_⟩
    · rw [List.map_map]
      refine List.map_congr_left fun p _ => ?_
      show (if p.1 = k then (p.1, v) else p).1 = p.1
      split <;> rfl
    · induction kvs generalizing vs with
      | nil => cases r; exact .nil
      | cons p kvs ih =>
        rw [List.map_cons] at r
        cases r with
        | @cons d0 v0 ds vs' h t =>
          rw [List.map_cons, List.map_cons, List.map_cons]
          unfold dSet
          refine .cons ?_ (ih t)
          by_cases e : p.1 = k
          · rw [if_pos e, if_pos e]; exact rd
          · rw [if_neg e, if_neg e]; exact h
  · rw [if_neg (by simpa using m), if_neg m, if_neg m, List.map_append, List.map_append]
    exact ⟨rfl, r.append (.cons rd .nil)⟩
theorem Now.dT {ks : List (List Int)} {vs : List D} {v : V} (h : Now K F H (.dT ks vs) v) : ∃ a o kvs, v = .ref a ∧ H a = some (dro a o) ∧ DRaw K H a o kvs ∧ ks = kvs.map (·.1) ∧ RepL K F H vs (kvs.map (·.2)) := by
  cases h with
  | rep h => cases h with
    | dT f h q r => exact ⟨_, _, _, rfl, h, q, rfl, r⟩
  | at_ h => cases h with
    | dT h q r => exact ⟨_, _, _, rfl, h, q, rfl, r⟩
end
/-- {} -/
def fDictN (b : Bool) : FE := fun _ μ => mk b (.dT [] []) μ
def dictAt (s : Sl) (μ : Store) : Option (List (List Int) × List D) := match s.get μ with
  | some (.dT ks vs) => some (ks, vs)
  | _ => none
theorem dictAt_ok {s : Sl} {μ : Store} {ks : List (List Int)} {vs : List D} (e : dictAt s μ = some (ks, vs)) : s.get μ = some (.dT ks vs) := by
  unfold dictAt at e
  split at e
  · rename_i h; cases e; exact h
  · cases e
def keyS (s : Sl) : Option (List Int) := match s with
  | .v d => keyD d
  | _ => none
theorem keyS_rep {K : PySem.W.Frag} {G : Gh} {H : Hp} {s : Sl} {v : V} {k : List Int} (r : SlRep K G H s v) (e : keyS s = some k) : ∃ b, v = .ref b ∧ TupAt K H b (k.map V.int) := by
  cases s with
  | v d => exact keyD_rep r e
  | _ => cases e
/-- the new dict is a cell while its pair is made -/
def fDisp (b : Bool) (fk fv : FE) : FE := fun ρ μ => (fk ρ (μ ++ [some (.dT [] [])])).bind fun s μ1 => (fv ρ μ1).bind fun t μ2 => match keyS s, t, (μ2[μ.length]?).join with
  | some k, .v d, some (.dT [] []) => if b = true then .ok (.c μ.length) (μ2.set μ.length (some (.dT [k] [d]))) else .ok (.v (.dT [k] [d])) (μ2.set μ.length none)
  | _, _, _ => .stuck
def fDGet (fd fk : FE) : FE := fun ρ μ => (fd ρ μ).bind fun s μ1 => (fk ρ μ1).bind fun t μ2 => match dictAt s μ2, keyS t with
  | some (ks, vs), some k => match dGet ks vs k with
    | some d => .ok (.v d) μ2
    | none => .stuck
  | _, _ => .stuck
def fDIn (neg : Bool) (fk fd : FE) : FE := fun ρ μ => (fk ρ μ).bind fun t μ1 => (fd ρ μ1).bind fun s μ2 => match dictAt s μ2, keyS t with
  | some (ks, vs), some k => .ok (.v (.bl (if neg then !(dGet ks vs k).isSome else (dGet ks vs k).isSome))) μ2
  | _, _ => .stuck
def fDGet2 (fd fk fx : FE) : FE := fun ρ μ => (fd ρ μ).bind fun s μ1 => match dictAt s μ1 with
  | none => .stuck
  | some _ => (fk ρ μ1).bind fun t μ2 => (fx ρ μ2).bind fun u μ3 => match dictAt s μ3, keyS t, u with
    | some (ks, vs), some k, .v d => .ok (.v ((dGet ks vs k).getD d)) μ3
    | _, _, _ => .stuck
def sDPut (fd fk fv : FE) : FS := fun ρ μ => (fv ρ μ).st ρ fun u μ1 => (fd ρ μ1).st ρ fun s μ2 => (fk ρ μ2).st ρ fun t μ3 => match s, dictAt s μ3, keyS t, u with
  | .c n, some (ks, vs), some k, .v d => if ks.length < lim then .go .nx ρ (μ3.set n (some (.dT (dPutK ks k) (dPutV ks vs k d)))) else .stuck
  | _, _, _, _ => .stuck
section
variable {X : Cx} {P : PX} {W : WX} {a b c e : Expr} {es : List Expr} {fa fb fc : FE} {ft fu : FT} {fg : FA} {pos p pos' apos cpos : Pos}
theorem de_dictN (nb : Bool) : DE X P W (.Dict [] [] pos) (fDictN nb) := pe_dnewN.to fun σ H Q h => by
  obtain ⟨G, μ, ρ, he, h⟩ := h
  intro p o hp dr
  exact Post.mkO he.rel h hp trivial fun F _ => .dT (kvs := []) upd_same dr .nil
/-- a cell whose content is laid for good -/
theorem Rel.seal {K : PySem.W.Frag} {G : Gh} {μ : Store} {H : Hp} (R : Rel K G μ H) {n : Nat} {a : Addr} {d : D} (ha : G.am[n]? = some (some a)) (e : (μ[n]?).join = some d) : ∃ G', Ext G H G' H ∧ Rel K G' (μ.set n none) H ∧ Rep K G'.F H d (.ref a) := by
  have env : EnvOk K G H [some (.c n)] [some (.ref a)] := ⟨rfl, fun i s es => by
    cases i with
    | zero =>
      cases es
      exact ⟨.ref a, rfl, (List.getElem?_eq_some_iff.mp ha).1, fun b eb => by rw [ha] at eb; cases eb; rfl⟩
    | succ i => simp at es⟩
  have t : tFreeze 0 [some (Sl.c n)] μ = some ([some (Sl.v d)], μ.set n none) := by
    show (match (μ[n]?).join with
      | some d => some (([some (Sl.c n)] : Env).set 0 (some (Sl.v d)), μ.set n none)
      | none => none) = _
    rw [e]
    rfl
  obtain ⟨G', x, R', env'⟩ := ghost_freeze (K := K) 0 G μ [some (.c n)] [some (.ref a)] H R env _ _ t
  obtain ⟨v, ev, r⟩ := env'.has 0 (.v d) rfl
  cases ev
  exact ⟨G', x, R', r⟩
theorem de_dispN (nb : Bool) (hu : X.A.units + 1 < cLine) (ha : DE X P W a fa) (hb : DE X P W b fb) : DE X P W (.Dict [some a] [b] pos) (fDisp nb fa fb) := (pe_dispN hu ha hb).to fun σ H Q h => by
  obtain ⟨G, μ, ρ, he, h⟩ := h
  intro p o hp dr
  have x0 : Ext G H (G.push p) (upd H p (dro p o)) := Ext.cell hp
  have R0 : Rel X.K (G.push p) (μ ++ [some (.dT [] [])]) (upd H p (dro p o)) := he.rel.newCell hp (.dT (kvs := []) upd_same dr .nil)
  have am0 : (G.push p).am[μ.length]? = some (some p) := by
    show (G.am ++ [some p])[μ.length]? = _
    rw [← he.rel.len, List.getElem?_append_right (Nat.le_refl _), Nat.sub_self]
    rfl
  have sl0 : SlRep X.K (G.push p) (upd H p (dro p o)) (.c μ.length) (.ref p) := ⟨(List.getElem?_eq_some_iff.mp am0).1, fun b eb => by rw [am0] at eb; cases eb; rfl⟩
  have he0 := he.step x0 R0
  refine ⟨G.push p, _, ρ, he0, Post.bind (Post.shift h x0) fun s μ1 x G1 H1 x1 R1 r1 h1 => ⟨G1, μ1, ρ, he0.step x1 R1, Post.bind h1 fun t μ2 y G2 H2 x2 R2 r2 h2 => ?_⟩⟩
  have r1' := R1.sl x2 r1
  have sl2 := R1.sl x2 (R0.sl x1 sl0)
  cases ek : keyS s with
  | none => simp only [ek] at h2; exact h2.elim
  | some k =>
    cases ec : (μ2[μ.length]?).join with
    | none => cases t <;> (simp only [ek, ec] at h2; exact h2.elim)
    | some d2 =>
      match t, d2, r2, h2, ec with
      | .v d, .dT [] [], r2, h2, ec =>
        simp only [ek, ec] at h2
        obtain ⟨b', rfl, tb⟩ := keyS_rep r1' ek
        obtain ⟨a2, ea2, am2, ra2⟩ := R2.cellOf sl2 ec
        cases ea2
        generalize ez : D.dT [] [] = z at ra2
        cases ra2 with
        | @dT vs o2 kvs h3 q3 r3 =>
          have ek0 : kvs = [] := by
            cases kvs with
            | nil => rfl
            | cons p ps => cases ez
          subst ek0
          refine ⟨_, y, rfl, ⟨o2, h3, q3⟩, b', k, rfl, tb, fun o' dr' => ?_⟩
          have rd : RepL X.K G2.F (upd H2 p (dro p o')) [d] [y] := .cons (Rep.up R2 am2 r2) .nil
          have R3 : Rel X.K G2 (μ2.set μ.length (some (.dT [k] [d]))) (upd H2 p (dro p o')) := R2.put am2 (.dT (kvs := [(k, y)]) upd_same dr' rd)
          have x3 : Ext G2 H2 G2 (upd H2 p (dro p o')) := Ext.put am2
          cases nb with
          | true => exact h2 _ G2 _ x3 R3 ((R2.sl x3 sl2))
          | false =>
            have ec3 : ((μ2.set μ.length (some (D.dT [k] [d])))[μ.length]?).join = some (.dT [k] [d]) := by
              have hl : μ.length < μ2.length := by rw [← R2.len]; exact (List.getElem?_eq_some_iff.mp am2).1
              rw [List.getElem?_set_self hl]
              rfl
            obtain ⟨G4, x4, R4, r4⟩ := R3.seal am2 ec3
            rw [List.set_set] at R4
            exact h2 _ G4 _ (x3.trans x4) R4 r4
        | _ => cases ez
      | .v d, .dT [] (_ :: _), _, h2, ec => simp only [ek, ec] at h2; exact h2.elim
      | .v d, .dT (_ :: _) _, _, h2, ec => simp only [ek, ec] at h2; exact h2.elim
      | .v d, .lst _, _, h2, ec => simp only [ek, ec] at h2; exact h2.elim
      | .v d, .dK _ _, _, h2, ec => simp only [ek, ec] at h2; exact h2.elim
      | .v d, .ins _ _ _, _, h2, ec => simp only [ek, ec] at h2; exact h2.elim
      | .v d, .tup _, _, h2, ec => simp only [ek, ec] at h2; exact h2.elim
      | .v d, .tp _, _, h2, ec => simp only [ek, ec] at h2; exact h2.elim
      | .v d, .fz _, _, h2, ec => simp only [ek, ec] at h2; exact h2.elim
      | .v d, .non, _, h2, ec => simp only [ek, ec] at h2; exact h2.elim
      | .v d, .bl _, _, h2, ec => simp only [ek, ec] at h2; exact h2.elim
      | .v d, .int _, _, h2, ec => simp only [ek, ec] at h2; exact h2.elim
      | .v d, .str _, _, h2, ec => simp only [ek, ec] at h2; exact h2.elim
      | .v d, .ty _, _, h2, ec => simp only [ek, ec] at h2; exact h2.elim
      | .v d, .glo _, _, h2, ec => simp only [ek, ec] at h2; exact h2.elim
      | .c _, _, _, h2, ec => simp only [ek, ec] at h2; exact h2.elim
      | .x _, _, _, h2, ec => simp only [ek, ec] at h2; exact h2.elim
/-- d[k] -/
theorem de_dget (hu : X.A.units + 1 < cLine) (ha : DE X P W a fa) (hb : DE X P W b fb) (hs : NoSl b := by exact fun _ _ => rfl) : DE X P W (.Subscript a b pos) (fDGet fa fb) := (pe_dgetN hu ha hb hs).to fun σ H Q h => by
  obtain ⟨G, μ, ρ, he, h⟩ := h
  refine ⟨G, μ, ρ, he, Post.bind h fun s μ1 x G1 H1 x1 R1 r1 h1 => ⟨G1, μ1, ρ, he.step x1 R1, Post.bind h1 fun t μ2 y G2 H2 x2 R2 r2 h2 => ?_⟩⟩
  cases ed : dictAt s μ2 with
  | none => simp only [ed] at h2; exact h2.elim
  | some kv =>
    obtain ⟨ks, vs⟩ := kv
    cases ek : keyS t with
    | none => simp only [ed, ek] at h2; exact h2.elim
    | some k =>
      simp only [ed, ek] at h2
      obtain ⟨ad, o, kvs, rfl, hd, dr, rfl, rr⟩ := (R2.now (R1.sl x2 r1) (dictAt_ok ed)).dT
      obtain ⟨b', rfl, tb⟩ := keyS_rep r2 ek
      have z := dGet_rep k rr
      cases eg : dGet (kvs.map (·.1)) vs k with
      | none => rw [eg] at h2; exact h2.elim
      | some d =>
        rw [eg] at h2 z
        obtain ⟨v, ev, rv⟩ := z
        exact ⟨ad, o, kvs, b', k, v, rfl, hd, dr, rfl, tb, ev, Post.val R2 h2 rv⟩
theorem dGet_some {K : PySem.W.Frag} {F : Addr → Prop} {H : Hp} {kvs : List (List Int × V)} {vs : List D} (k : List Int) (r : RepL K F H vs (kvs.map (·.2))) : (dGet (kvs.map (·.1)) vs k).isSome = (valV kvs k).isSome := by
  have z := dGet_rep k r
  cases eg : dGet (kvs.map (·.1)) vs k with
  | none => rw [eg] at z; simp only at z; rw [z]; rfl
  | some d => rw [eg] at z; obtain ⟨v, ev, _⟩ := z; rw [ev]; rfl
theorem TD.din (neg : Bool) {K : PySem.W.Frag} : ∀ σ H Q, TD K P W (fDIn neg fa fb) σ H Q → tDInN K neg (TD K P W fa) (TD K P W fb) σ H Q := by
  rintro σ H Q ⟨G, μ, ρ, he, h⟩
  refine ⟨G, μ, ρ, he, Post.bind h fun t μ1 y G1 H1 x1 R1 r1 h1 => ⟨G1, μ1, ρ, he.step x1 R1, Post.bind h1 fun s μ2 x G2 H2 x2 R2 r2 h2 => ?_⟩⟩
  cases ed : dictAt s μ2 with
  | none => simp only [ed] at h2; exact h2.elim
  | some kv =>
    obtain ⟨ks, vs⟩ := kv
    cases ek : keyS t with
    | none => simp only [ed, ek] at h2; exact h2.elim
    | some k =>
      simp only [ed, ek] at h2
      obtain ⟨ad, o, kvs, rfl, hd, dr, rfl, rr⟩ := (R2.now r2 (dictAt_ok ed)).dT
      obtain ⟨b', rfl, tb⟩ := keyS_rep (R1.sl x2 r1) ek
      rw [dGet_some k rr] at h2
      exact ⟨ad, o, kvs, b', k, rfl, hd, dr, rfl, tb, Post.val R2 h2 (.bl _)⟩
theorem de_din (neg : Bool) (hu : X.A.units + 1 < cLine) (hm : behindInMarks (if neg = true then .NotIn else .In) b = false) (ha : DE X P W a fa) (hb : DE X P W b fb) : DE X P W (.Compare a [if neg = true then .NotIn else .In] [b] pos) (fDIn neg fa fb) := by
  cases neg with
  | true => exact (pe_cmp (pc_dnotinN hu ha hb) hm).to (TD.din true)
  | false => exact (pe_cmp (pc_dinN hu ha hb) hm).to (TD.din false)
theorem dt_din (neg : Bool) (hu : X.A.units + 1 < cLine) (hm : behindInMarks (if neg = true then .NotIn else .In) b = false) (ha : DE X P W a fa) (hb : DE X P W b fb) : DT X P W (.Compare a [if neg = true then .NotIn else .In] [b] pos) (fTest (fDIn neg fa fb)) := by
  cases neg with
  | true => exact (pt_cmp (pc_dnotinN hu ha hb) hm).to fun σ H Q q => TD.din true _ _ _ (TD.test σ H Q q)
  | false => exact (pt_cmp (pc_dinN hu ha hb) hm).to fun σ H Q q => TD.din false _ _ _ (TD.test σ H Q q)
/-- d.get(k, x) -/
theorem de_dget2 (hu : X.A.units + 1 < cLine) (ho : DE X P W a fa) (he : DE X P W b fb) (hf : DE X P W c fc) (m : M2 X a "get" apos b c cpos := by exact ⟨rfl, rfl, rfl, rfl⟩) : DE X P W (.Call (.Attribute a "get" apos) [b, c] [] cpos) (fDGet2 fa fb fc) := (pe_dget2N hu ho he hf m).to fun σ H Q h => by
  obtain ⟨G, μ, ρ, he, h⟩ := h
  refine ⟨G, μ, ρ, he, Post.bind h fun s μ1 x G1 H1 x1 R1 r1 h1 => ?_⟩
  cases ed1 : dictAt s μ1 with
  | none => rw [ed1] at h1; exact h1.elim
  | some kv1 =>
    obtain ⟨ks1, vs1⟩ := kv1
    rw [ed1] at h1
    obtain ⟨ad, o, kvs, rfl, hd, dr, _, _⟩ := (R1.now r1 (dictAt_ok ed1)).dT
    refine ⟨ad, rfl, ⟨o, kvs, hd, dr⟩, G1, μ1, ρ, he.step x1 R1, Post.bind h1 fun t μ2 y G2 H2 x2 R2 r2 h2 => ⟨G2, μ2, ρ, (he.step x1 R1).step x2 R2, Post.bind h2 fun u μ3 z G3 H3 x3 R3 r3 h3 => ?_⟩⟩
    cases ed : dictAt s μ3 with
    | none => simp only [ed] at h3; exact h3.elim
    | some kv =>
      obtain ⟨ks, vs⟩ := kv
      cases ek : keyS t with
      | none => simp only [ed, ek] at h3; exact h3.elim
      | some k =>
        match u, r3, h3 with
        | .v d, r3, h3 =>
          simp only [ed, ek] at h3
          obtain ⟨ad2, o2, kvs2, e2, hd2, dr2, rfl, rr⟩ := (R3.now (R2.sl x3 (R1.sl x2 r1)) (dictAt_ok ed)).dT
          cases e2
          obtain ⟨b', rfl, tb⟩ := keyS_rep (R2.sl x3 r2) ek
          have zz := dGet_rep k rr
          refine ⟨o2, kvs2, b', k, hd2, dr2, rfl, tb, ?_⟩
          cases eg : dGet (kvs2.map (·.1)) vs k with
          | none =>
            rw [eg] at h3 zz
            simp only at zz
            rw [zz]
            exact Post.val R3 h3 r3
          | some d2 =>
            rw [eg] at h3 zz
            obtain ⟨v, ev, rv⟩ := zz
            rw [ev]
            exact Post.val R3 h3 rv
        | .c _, _, h3 => simp only [ed, ek] at h3; exact h3.elim
        | .x _, _, h3 => simp only [ed, ek] at h3; exact h3.elim
/-- d[k] = v -/
theorem ds_dput (hu : X.A.units + 1 < cLine) (ho : DE X P W a fa) (hi : DE X P W b fb) (hv : DE X P W c fc) (hs : swapsWith c (some (.Subscript a b pos')) pos.line X.env = pure false := by rfl) : DS X P W (.Assign [.Subscript a b pos'] c pos) (sDPut fa fb fc) := (ps_dputN hu ho hi hv hs).to fun D σ H h => by
  obtain ⟨G, μ, ρ, he, h⟩ := h
  refine ⟨G, μ, ρ, he, Post1.bind he h fun u μ1 v G1 H1 x1 R1 r1 h1 => ⟨G1, μ1, ρ, he.step x1 R1, Post1.bind (he.step x1 R1) h1 fun s μ2 x G2 H2 x2 R2 r2 h2 => ⟨G2, μ2, ρ, (he.step x1 R1).step x2 R2, Post1.bind ((he.step x1 R1).step x2 R2) h2 fun t μ3 y G3 H3 x3 R3 r3 h3 => ?_⟩⟩⟩
  have he3 := ((he.step x1 R1).step x2 R2).step x3 R3
  have rs := R2.sl x3 r2
  have ru := R2.sl x3 (R1.sl x2 r1)
  match s, u, rs, ru, h3 with
  | .c n, .v d, rs, ru, h3 =>
    cases ed : dictAt (.c n) μ3 with
    | none => simp only [ed] at h3; exact h3.elim
    | some kv =>
      obtain ⟨ks, vs⟩ := kv
      cases ek : keyS t with
      | none => simp only [ed, ek] at h3; exact h3.elim
      | some k =>
        simp only [ed, ek] at h3
        by_cases hl : ks.length < lim
        · rw [if_pos hl] at h3
          obtain ⟨ad, rfl, am, ra⟩ := R3.cellOf rs (dictAt_ok ed)
          generalize ez : DL.D.dT ks vs = z at ra
          cases ra with
          | @dT vs' o kvs hd q r =>
            cases ez
            obtain ⟨b', rfl, tb⟩ := keyS_rep r3 ek
            obtain ⟨p1, p2⟩ := dPut_rep k r ru
            refine ⟨ad, o, kvs, b', k, rfl, hd, q, rfl, tb, by rw [List.length_map] at hl; rw [sizeLine_lim]; exact hl, fun o' dr => ?_⟩
            have R4 : Rel X.K G3 (μ3.set n (some (.dT (dPutK (kvs.map (·.1)) k) (dPutV (kvs.map (·.1)) vs k d)))) (upd H3 ad (dro ad o')) := R3.put am (by
              rw [← p1]
              exact .dT upd_same dr (RepL.up (F := G3.F) R3 am p2))
            have x4 : Ext G3 H3 G3 (upd H3 ad (dro ad o')) := Ext.put am
            exact Post1.nx (Post1.shift h3 x4) R4 (R3.env x4 he3.env)
          | _ => cases ez
        · rw [if_neg hl] at h3; exact h3.elim
  | .v _, _, _, _, h3 => exact (by revert h3; cases dictAt _ μ3 <;> cases keyS t <;> exact fun z => z.elim)
  | .x _, _, _, _, h3 => exact (by revert h3; cases dictAt _ μ3 <;> cases keyS t <;> exact fun z => z.elim)
  | .c n, .c _, _, _, h3 => exact (by revert h3; cases dictAt _ μ3 <;> cases keyS t <;> exact fun z => z.elim)
  | .c n, .x _, _, _, h3 => exact (by revert h3; cases dictAt _ μ3 <;> cases keyS t <;> exact fun z => z.elim)
end

/-! ### what is walked: items, keys; the sum of the values -/
section
variable {X : Cx} {pins : List (Addr × Obj)} {σ : L2.St} {H : Hp} {s : Shared} {d : Addr} {o : Obj} {kvs : List (List Int × V)}
theorem pair_at {α β : Type} {R : α → β → Prop} : ∀ {as : List α} {bs : List β} {i : Nat} {b : β}, Paired R as bs → bs[i]? = some b → ∃ a, as[i]? = some a ∧ R a b
  | _, _, _, _, .nil, e => by simp at e
  | _, _, 0, _, .cons h _, e => by simp at e; subst e; exact ⟨_, rfl, h⟩
  | _, _, i + 1, b, .cons _ t, e => by
    obtain ⟨a, h1, h2⟩ := pair_at (i := i) (b := b) t (by simpa using e)
    exact ⟨a, by simpa using h1, h2⟩
theorem draw_raw (I : Inv X pins σ H s) (h : H d = some (dro d o)) (q : DRaw X.K H d o kvs) : ∃ es ep, o.data = .dict es ep ∧ s.heap.DictRaw d es ep ∧ es.size = kvs.length ∧
    ∀ i (hi : i < es.size), ∃ k v b, kvs[i]? = some (k, v) ∧ es[i].key = .ref b ∧ TupAt X.K H b (k.map V.int) ∧ RelV v es[i].val := by
  obtain ⟨h1, h2, h3, es, ep, ys, h4, h5, h6, h7⟩ := q
  have hz : es.size = kvs.length := by rw [← Array.length_toList, h5, List.length_map, Paired.length h6]
  refine ⟨es, ep, h4, ⟨o, dro_get I h, h3, h4⟩, hz, fun i hi => ?_⟩
  have hy : i < ys.length := by rw [← Paired.length h6, ← hz]; exact hi
  have e : es.toList[i]? = some (entI ys[i]) := by rw [h5, List.getElem?_map, List.getElem?_eq_getElem hy]; rfl
  rw [Array.getElem?_toList, Array.getElem?_eq_getElem hi] at e
  have e' := Option.some.inj e
  obtain ⟨p, ep', e1, e2, e3⟩ := pair_at h6 (List.getElem?_eq_getElem hy)
  refine ⟨p.1, p.2, ys[i].2.1, ep', by rw [e']; rfl, e2, by rw [e']; exact e3⟩
end
def ItiN (K : PySem.W.Frag) (d : Addr) (o : Obj) (kvs : List (List Int × V)) : It :=
  ⟨fun i H => H d = some (dro d o) ∧ DRaw K H d o kvs ∧ i < kvs.length, fun i H x H' => ∃ T k v b, kvs[i]? = some (k, v) ∧ x = .ref T ∧ H T = none ∧ TupAt K H b (k.map V.int) ∧ H' = upd H T (.tup [.ref b, v]), fun i H => H d = some (dro d o) ∧ DRaw K H d o kvs ∧ kvs.length ≤ i⟩
def ItkN (K : PySem.W.Frag) (d : Addr) (o : Obj) (kvs : List (List Int × V)) : It :=
  ⟨fun i H => H d = some (dro d o) ∧ DRaw K H d o kvs ∧ i < kvs.length, fun i H x H' => ∃ k v b, kvs[i]? = some (k, v) ∧ x = .ref b ∧ TupAt K H b (k.map V.int) ∧ H' = H, fun i H => H d = some (dro d o) ∧ DRaw K H d o kvs ∧ kvs.length ≤ i⟩
section
variable {P : Program} {w : World} {K : PySem.W.Frag} {tg : Expr} {d : Addr} {o : Obj} {es : Array DictEntry} {ep : Nat} {kvs : List (List Int × V)}
theorem turn_itemsN {elts : List Expr} {kk : Nat} {tpos : Pos} (it : Addr) (hod : o.data = .dict es ep) :
    Turn P w K (.Tuple elts kk tpos) (ItiN K d o kvs) [it] it (fun i h => ∃ ok ov, IsItemIter h it d i kvs.length ep ok ov) where
  mem := List.mem_singleton.mpr rfl
  obj := fun i h st b hb => by
    obtain rfl := List.mem_singleton.mp hb
    obtain ⟨ok, ov, e⟩ := st
    exact ⟨_, e, fun v z => nomatch z⟩
  keep := fun i h h' ⟨ok, ov, e⟩ k => ⟨ok, ov, k it (List.mem_singleton.mpr rfl) _ e⟩
  item := by
    intro X hP hw hK hc i pins s σ H E I hf st hg
    subst hP hw hK
    obtain ⟨hd, q, hi⟩ := hg
    obtain ⟨es', ep', hdt, hm, hz, ent⟩ := draw_raw I hd q
    obtain ⟨rfl, rfl⟩ := dict_ep hod hdt
    have hi' : i < es'.size := by rw [hz]; exact hi
    obtain ⟨k, v, b, hkv, ek, tb, rv⟩ := ent i hi'
    obtain ⟨ok, ov, he⟩ := st
    rw [← hz] at he
    have hlt : it < s.heap.objs.size := Heap.lt_size he
    refine wpAny_pyNext_items_item_raw he hm hi' fun h' ho hT hz' hk => ⟨_, rfl, wpAny_letOwnedTupleGo_items (s := { s with heap := h' }) ho fun h'' he' sb => ?_⟩
    have hT2 : h''.get? s.heap.objs.size = some { cls := .type "tuple", data := .seq #[es'[i].key, es'[i].val] } := (sb.2 _ (Nat.ne_of_gt hlt)).trans hT
    have new : ObjOk X.prog X.w (upd H s.heap.objs.size (.tup [.ref b, v])) h'' s.heap.objs.size (.tup [.ref b, v]) :=
      ⟨by show 2 ≤ sizeLine; decide, [es'[i].key, es'[i].val], .cons ek (.cons rv .nil), ⟨_, hT2, rfl, _, rfl⟩⟩
    have I1 : Inv X pins σ (upd H s.heap.objs.size (.tup [.ref b, v])) { s with heap := h'' } :=
      I.turnedNew (t' := s.toks) (ch := [it]) (fun c ob hb e => (sb.2 c (by simpa using hb)).trans (hk c ob (by simpa using hb) e)) hf (Nat.le_refl _) new
    refine ⟨.ref s.heap.objs.size, _, I1, rfl, ⟨_, k, v, b, hkv, rfl, I.hok.fresh (Nat.le_refl _), tb, rfl⟩, ⟨es'[i].key, es'[i].val, by rw [← hz]; exact he'⟩, fun c hb => ?_⟩
    obtain rfl := List.mem_singleton.mp hb
    rw [upd_ne (Nat.ne_of_lt hlt)]
    exact (hf c hb).1
  done := by
    intro X hP hw hK hc i pins s σ H E I hf st hg
    subst hP hw hK
    obtain ⟨hd, q, hi⟩ := hg
    obtain ⟨f0, f1, f2, f3, f4, f5⟩ := hf it (List.mem_singleton.mpr rfl)
    obtain ⟨es', ep', hdt, hm, hz, ent⟩ := draw_raw I hd q
    obtain ⟨rfl, rfl⟩ := dict_ep hod hdt
    obtain ⟨ok, ov, he⟩ := st
    rw [← hz] at he
    exact wpAny_pyNext_items_end_raw (I.ok.hd hc) he hm (by rw [hz]; exact hi) fun h' eb => ⟨rfl, I.turned (t' := s.toks) (fun b ob hb e => eb b ob hb e) f0 f1 f3 f4 f5⟩
  self := fun A i s Q E ⟨_, _, e⟩ h => PySem.W.kcp_self e h
theorem turn_keysN (it : Addr) (hod : o.data = .dict es ep) : Turn P w K tg (ItkN K d o kvs) [it] it (fun i h => h.IsKeyIter it d i kvs.length ep) where
  mem := List.mem_singleton.mpr rfl
  obj := fun i h st b hb => by
    obtain rfl := List.mem_singleton.mp hb
    obtain ⟨oi, e, c, dd⟩ := st
    exact ⟨oi, e, fun v z => by rw [dd] at z; cases z⟩
  keep := fun i h h' st k => st.at fun oi e => k it (List.mem_singleton.mpr rfl) oi e
  item := by
    intro X hP hw hK hc i pins s σ H E I hf st hg
    subst hP hw hK
    obtain ⟨hd, q, hi⟩ := hg
    obtain ⟨f0, f1, f2, f3, f4, f5⟩ := hf it (List.mem_singleton.mpr rfl)
    obtain ⟨es', ep', hdt, hm, hz, ent⟩ := draw_raw I hd q
    obtain ⟨rfl, rfl⟩ := dict_ep hod hdt
    have hi' : i < es'.size := by rw [hz]; exact hi
    obtain ⟨k, v, b, hkv, ek, tb, rv⟩ := ent i hi'
    rw [← hz] at st
    refine wpAny_pyNext_keys_item_raw st hm hi' fun h' st' sb => ?_
    have I1 : Inv X pins σ H { s with heap := h' } := I.turned (t' := s.toks) (fun b ob hb e => (sb.2 b hb).trans e) f0 f1 f3 f4 f5
    obtain ⟨oi, e, c, dd⟩ := id st'
    exact ⟨es'[i].key, rfl, go_of (s := { s with heap := h' }) e c dd (by decide) ⟨.ref b, H, I1, ek, ⟨k, v, b, hkv, rfl, tb, rfl⟩, by rw [← hz]; exact st', fun c hb => (hf c hb).1⟩⟩
  done := by
    intro X hP hw hK hc i pins s σ H E I hf st hg
    subst hP hw hK
    obtain ⟨hd, q, hi⟩ := hg
    obtain ⟨f0, f1, f2, f3, f4, f5⟩ := hf it (List.mem_singleton.mpr rfl)
    obtain ⟨es', ep', hdt, hm, hz, ent⟩ := draw_raw I hd q
    obtain ⟨rfl, rfl⟩ := dict_ep hod hdt
    rw [← hz] at st
    exact wpAny_pyNext_keys_end_raw (I.ok.hd hc) st hm (by rw [hz]; exact hi) fun h' eb => ⟨rfl, I.turned (t' := s.toks) (fun b ob hb e => eb b ob hb e) f0 f1 f3 f4 f5⟩
  self := fun A i s Q E st h => wpAny_pyIter_keyiter st h
end
def iItemsN (K : PySem.W.Frag) (td : TE) : TI := fun σ H R => td σ H fun x H1 => ∃ d o kvs, x = .ref d ∧ H1 d = some (dro d o) ∧ DRaw K H1 d o kvs ∧ R (ItiN K d o kvs) H1
def iKeysN (K : PySem.W.Frag) (td : TE) : TI := fun σ H R => td σ H fun x H1 => ∃ d o kvs, x = .ref d ∧ H1 d = some (dro d o) ∧ DRaw K H1 d o kvs ∧ R (ItkN K d o kvs) H1
section
variable {X : Cx} {tg e : Expr} {td : TE} {apos cpos : Pos}
theorem pi_keysN (he : PE X e td) : PI X tg e (iKeysN X.K td) := by
  refine ⟨fun pins s σ H R I h => thn (he.run pins s σ H _ I h) fun u s1 ⟨x, H1, I1, rx, d, o, kvs, ex, hd, dr, q⟩ => ?_⟩
  subst ex
  obtain rfl : u = Value.ref d := rx
  obtain ⟨es, ep, hdt, hm, hz, _⟩ := draw_raw I1 hd dr
  refine wpAny_pyIter_dict_raw dr.1 hm (pi_one (tk := s1.toks) I1 _ (turn_keysN _ hdt) ⟨_, Heap.get?_push_size _ rfl, rfl, ?_⟩ q)
  rw [hz] <;> rfl
theorem pi_itemsN {elts : List Expr} {kk : Nat} {tpos : Pos} (he : PE X e td) (hbase : attributeBase e "items" X.env (eval e X.env) = eval e X.env := by rfl) (hline : (apos.endLine == cpos.line) = true := by rfl) :
    PI X (.Tuple elts kk tpos) (.Call (.Attribute e "items" apos) [] [] cpos) (iItemsN X.K td) := by
  refine ⟨fun pins s σ H R I h => ?_⟩
  refine wpAny_Call_method (T := "dict") (id := "dict.items") hbase rfl hline PySem.F.plainAttrs_dict PySem.F.slot_dict_items PySem.F.type_dict_items (thn (he.run pins s σ H _ I h) fun u s1 ⟨x, H1, I1, rx, d, o, kvs, ex, hd, dr, q⟩ => ?_)
  subst ex
  obtain rfl : u = Value.ref d := rx
  obtain ⟨es, ep, hdt, hm, hz, _⟩ := draw_raw I1 hd dr
  refine ⟨draw_typeIs I1 hd dr, draw_noDict I1 hd dr, ?_⟩
  have I2 : Inv X pins σ H1 { s1 with heap := s1.heap.push { cls := .type "dict_items", data := .fields #[.ref d] } } := I1.kept (t' := s1.toks) fun b ob q => Heap.get?_push_of_some _ q
  have fin : wpAny (model X.prog X.w) X.A (pyIter (.ref s1.heap.objs.size)) (PIE X pins σ (.Tuple elts kk tpos) R) X.xe { s1 with heap := s1.heap.push { cls := .type "dict_items", data := .fields #[.ref d] } } := by
    refine wpAny_pyIter_items_raw (d := d) ⟨_, Heap.get?_push_size _ rfl, rfl, rfl⟩ (hm.push _) (pi_one (tk := s1.toks) I2 _ (turn_itemsN _ hdt) ⟨.none, .none, ?_⟩ q)
    rw [← hz]
    exact Heap.get?_push_size _ rfl
  show wpAny _ _ (callWith cpos (.builtin "dict.items") [.ref d] [] []) _ X.xe s1
  exact method_meetsIn PySem.F.slot_dict_items PySem.F.entry_dict_items rfl (PySem.evalArgs_none ⟨rfl, hm.typeIs, PySem.F.args_dict_items_1 _, _, meets_dict_items_raw d dr.1, ⟨es, ep, hm⟩, fin⟩)
end
def itemsD : List (List Int) → List D → List D
  | k :: ks, v :: vs => .tp [.tup (k.map .int), v] :: itemsD ks vs
  | _, _ => []
def fItems (f : FE) : FI := fun ρ μ => (f ρ μ).bind fun s μ1 => match s with
  | .v (.dT ks vs) => .ok (.vals (itemsD ks vs)) μ1
  | _ => .stuck
def fDKeys (f : FE) : FI := fun ρ μ => (f ρ μ).bind fun s μ1 => match s with
  | .v (.dT ks _) => .ok (.vals (ks.map fun k => .tup (k.map .int))) μ1
  | _ => .stuck
section
variable {K : PySem.W.Frag} {G : Gh} {H : Hp} {μ : Store}
theorem itemsD_get : ∀ {kvs : List (List Int × V)} {vs : List D} {F : Addr → Prop} (i : Nat), RepL K F H vs (kvs.map (·.2)) → (itemsD (kvs.map (·.1)) vs)[i]? = (match kvs[i]?, vs[i]? with
    | some p, some d => some (.tp [.tup (p.1.map .int), d])
    | _, _ => none)
  | [], _, _, i, .nil => by simp [itemsD]
  | p :: kvs, _, _, 0, .cons _ _ => rfl
  | p :: kvs, _, _, i + 1, .cons _ t => itemsD_get i t
theorem ItiN.ok {d : Addr} {o : Obj} {kvs : List (List Int × V)} {vs : List D} (R : Rel K G μ H) (f : G.F d) (h : H d = some (dro d o)) (q : DRaw K H d o kvs) (r : RepL K G.F H vs (kvs.map (·.2))) : ItOk K G H (.vals (itemsD (kvs.map (·.1)) vs)) (ItiN K d o kvs) := by
  intro G' μ' H' i x R'
  have r' := R.repL x r
  have h' := R.hk x _ _ h (.inl f)
  have q' := draw_mono (R.hk x) q
  show match some (itemsD (kvs.map (·.1)) vs)[i]? with
    | none => True
    | some none => _
    | some (some d) => _
  rw [itemsD_get i r]
  cases e : kvs[i]? with
  | none => exact ⟨h', q', List.getElem?_eq_none_iff.mp e⟩
  | some p =>
    have hi : i < kvs.length := (List.getElem?_eq_some_iff.mp e).1
    have hl : i < vs.length := by rw [r.length, List.length_map]; exact hi
    rw [List.getElem?_eq_getElem hl]
    refine ⟨⟨h', q', hi⟩, fun y H'' ⟨T, k, v, b, e1, e2, nT, tb, e3⟩ => ?_⟩
    rw [e] at e1
    cases e1
    subst e2 e3
    obtain ⟨v', ev, rv⟩ := r'.get (List.getElem?_eq_getElem hl)
    rw [List.getElem?_map, e] at ev
    cases ev
    have tb' : TupAt K (upd H' T (.tup [.ref b, v])) b (k.map V.int) := tupAt_mono (R'.hk (Ext.new nT)) tb
    exact ⟨G', Ext.new nT, R'.new nT, .tp upd_same (.cons (.tup tb' (RepL.ofInts k)) (.cons (R'.rep (Ext.new nT) rv) .nil))⟩
theorem ItkN.ok {d : Addr} {o : Obj} {kvs : List (List Int × V)} {vs : List D} (R : Rel K G μ H) (f : G.F d) (h : H d = some (dro d o)) (q : DRaw K H d o kvs) : ItOk K G H (.vals ((kvs.map (·.1)).map fun k => .tup (k.map .int))) (ItkN K d o kvs) := by
  intro G' μ' H' i x R'
  have h' := R.hk x _ _ h (.inl f)
  have q' := draw_mono (R.hk x) q
  show match some (((kvs.map (·.1)).map fun k => D.tup (k.map .int)))[i]? with
    | none => True
    | some none => _
    | some (some d) => _
  rw [List.getElem?_map, List.getElem?_map]
  cases e : kvs[i]? with
  | none => exact ⟨h', q', List.getElem?_eq_none_iff.mp e⟩
  | some p =>
    refine ⟨⟨h', q', (List.getElem?_eq_some_iff.mp e).1⟩, fun y H'' ⟨k, v, b, e1, e2, tb, e3⟩ => ?_⟩
    rw [e] at e1
    cases e1
    subst e2 e3
    exact ⟨G', .refl, R', .tup tb (RepL.ofInts k)⟩
end
section
variable {X : Cx} {P : PX} {W : WX} {a tg : Expr} {fa : FE} {apos cpos : Pos}
theorem di_items {elts : List Expr} {kk : Nat} {tpos : Pos} (ha : DE X P W a fa) (hbase : attributeBase a "items" X.env (eval a X.env) = eval a X.env := by rfl) (hline : (apos.endLine == cpos.line) = true := by rfl) :
    DI X P W (.Tuple elts kk tpos) (.Call (.Attribute a "items" apos) [] [] cpos) (fItems fa) := (pi_itemsN ha hbase hline).to fun σ H Rr h => by
  obtain ⟨G, μ, ρ, he, h⟩ := h
  refine ⟨G, μ, ρ, he, Post.bind h fun s μ1 x G1 H1 x1 R1 r1 h1 => ?_⟩
  match s, r1, h1 with
  | .v (.dT ks vs), r1, h1 =>
    generalize ez : D.dT ks vs = z at r1
    cases r1 with
    | @dT vs' ad o kvs f hd q r =>
      cases ez
      exact ⟨ad, o, kvs, rfl, hd, q, h1 _ G1 H1 .refl R1 (ItiN.ok R1 f hd q r)⟩
    | _ => cases ez
theorem di_dkeys (ha : DE X P W a fa) : DI X P W tg a (fDKeys fa) := (pi_keysN ha).to fun σ H Rr h => by
  obtain ⟨G, μ, ρ, he, h⟩ := h
  refine ⟨G, μ, ρ, he, Post.bind h fun s μ1 x G1 H1 x1 R1 r1 h1 => ?_⟩
  match s, r1, h1 with
  | .v (.dT ks vs), r1, h1 =>
    generalize ez : D.dT ks vs = z at r1
    cases r1 with
    | @dT vs' ad o kvs f hd q r =>
      cases ez
      exact ⟨ad, o, kvs, rfl, hd, q, h1 _ G1 H1 .refl R1 (ItkN.ok (vs := vs) R1 f hd q)⟩
    | _ => cases ez
end

/-! ### sum(d.values()) -/
section
variable {prog : Program} {w : World} {A : Around} {E : Value → Shared → Prop} {s : Shared} {v d : Addr} {es : Array DictEntry} {ep : Nat} {ns : List Int} {Q : Value → Shared → Prop}
theorem preSum_get (ns : List Int) : ∀ j, j ≤ ns.length → preSum (fun i => ns.getD i 0) j = (ns.take j).sum
  | 0, _ => by simp [preSum]
  | j + 1, h => by
    rw [preSum, preSum_get ns j (by omega), List.take_add_one, List.sum_append]
    congr 1
    rw [List.getElem?_eq_getElem (by omega)]
    simp [List.getD, List.getElem?_eq_getElem (show j < ns.length by omega)]
theorem sumV_raw (hh : A.handled = none) (hv : s.heap.IsValuesView v d) (hm : s.heap.DictRaw d es ep) (hn : es.size = ns.length) (hi : ∀ i (h : i < es.size), ∃ t, es[i].val = .int (ns.getD i 0) t)
    (h : ∀ h' tk t', (∀ b o, s.heap.get? b = some o → h'.get? b = some o) → Q (.int ns.sum t') { s with heap := h', toks := tk }) : wpAny (model prog w) A (call (.builtin "sum") [.ref v]) Q E s := by
  refine call_sum_walkAnyS ?_
  have Kd : PySem.W.KdlSrc prog w "dict_values" v d es.size (fun i v => ∃ hi : i < es.size, v = es[i].val) (fun h => h.IsValuesView v d ∧ h.DictRaw d es ep) := PySem.KdlSrc.rawValues
  obtain ⟨oI, St, hit, W, st⟩ := Kd.iter A.in1 s hh ⟨hv, hm⟩
  refine hit _ _ ⟨s.heap.objs.size, _, _, _, es.size, _, _, fun i => ns.getD i 0, rfl, W.toS, st, fun b hb => ?_, fun i u ⟨hi', e⟩ => by rw [e]; exact hi i hi', fun s' t' mv => ?_⟩
  · show b < (s.heap.push oI).objs.size
    rw [size_push']
    rcases List.mem_cons.mp hb with e | hb
    · rw [e]; exact Nat.lt_succ_self _
    · rw [List.mem_singleton.mp hb]; exact Nat.lt_succ_of_lt (Kd.there _ ⟨hv, hm⟩).2
  · rw [Moved.eq_with mv, hn, preSum_get ns _ (Nat.le_refl _), List.take_length]
    exact h s'.heap s'.toks t' fun b o e => mv.heap b o (fun hI => absurd (Heap.lt_size e) (by rw [List.mem_singleton.mp hI]; exact Nat.lt_irrefl _)) (Heap.get?_push_of_some _ e)
end
def valsO (p d : Addr) : HO := .ext fun h => h.IsValuesView p d
theorem valsO_ok {P : Program} {w : World} {H : Hp} {h : Heap} {p d : Addr} (e : h.get? p = some { cls := .type "dict_values", data := .fields #[.ref d] }) : ObjOk P w H h p (valsO p d) :=
  ⟨⟨_, e, rfl, rfl⟩, ⟨_, e⟩, fun _ _ ⟨o, h1, h2⟩ k => ⟨o, k _ h1, h2⟩⟩
def tSumV (K : PySem.W.Frag) (td : TE) : TE := fun σ H Q => td σ H fun x H1 => ∃ d o kvs, x = .ref d ∧ H1 d = some (dro d o) ∧ DRaw K H1 d o kvs ∧ ∃ ns : List Int, kvs.map (·.2) = ns.map V.int ∧ Q (.int ns.sum) H1
theorem pe_sumV {X : Cx} {a : Expr} {ta : TE} {p pos apos cpos : Pos} (hc : X.calm = true) (hg : Gl X "sum") (hm : X.mg "sum" = none) (ha : PE X a ta)
    (hbase : attributeBase a "values" X.env (eval a X.env) = eval a X.env := by rfl) (hline : (apos.endLine == cpos.line) = true := by rfl)
    (na : starEach [.Call (.Attribute a "values" apos) [] [] cpos] X.env = (false, eval (.Call (.Attribute a "values" apos) [] [] cpos) X.env) :: starEach [] X.env := by rfl) :
    PE X (.Call (.Name "sum" p) [.Call (.Attribute a "values" apos) [] [] cpos] [] pos) (tSumV X.K ta) := by
  refine ⟨fun pins s σ H Q I h => Call_ (ld_blt I hg hm PyProof.Rows.boot_sum (PyProof.Rows.callWith_builtin1 (PyProof.Rows.args_cons ?_ rfl) rfl rfl))⟩
  refine wpAny_Call_method (T := "dict") (id := "dict.values") hbase rfl hline PySem.F.plainAttrs_dict PySem.F.slot_dict_values PySem.F.type_dict_values (thn (ha.run pins s σ H _ I h) fun u s1 ⟨x, H1, I1, rx, d, o, kvs, ex, hd, dr, ns, en, q⟩ => ?_)
  subst ex
  obtain rfl : u = Value.ref d := rx
  obtain ⟨es, ep, hdt, hm1, hz, ent⟩ := draw_raw I1 hd dr
  refine ⟨draw_typeIs I1 hd dr, draw_noDict I1 hd dr, ?_⟩
  show wpAny _ _ (callWith cpos (.builtin "dict.values") [.ref d] [] []) _ X.xe s1
  refine method_meetsIn PySem.F.slot_dict_values PySem.F.entry_dict_values rfl (PySem.evalArgs_none ⟨rfl, hm1.typeIs, PySem.F.args_dict_values_1 _, _, meets_dict_values_raw d dr.1, ⟨es, ep, hm1⟩, PyProof.Rows.args_nil ?_⟩)
  have I2 : Inv X pins σ H1 { s1 with heap := s1.heap.push { cls := .type "dict_values", data := .fields #[.ref d] } } := I1.kept (t' := s1.toks) fun b ob q => Heap.get?_push_of_some _ q
  have hl : kvs.length = ns.length := by have := congrArg List.length en; simpa using this
  refine sumV_raw (I2.ok.hd hc) (ns := ns) ⟨_, Heap.get?_push_size _ rfl, rfl, rfl⟩ (hm1.push _) (by rw [hz]; exact hl) (fun i hi => ?_) fun h' tk t' hk => ⟨.int ns.sum, H1, I2.kept hk, ⟨_, rfl⟩, q⟩
  obtain ⟨k, v, b, hkv, ek, tb, rv⟩ := ent i hi
  have e1 : (kvs.map (·.2))[i]? = some v := by rw [List.getElem?_map, hkv]; rfl
  rw [en, List.getElem?_map] at e1
  have hi2 : i < ns.length := by rw [← hl, ← hz]; exact hi
  rw [List.getElem?_eq_getElem hi2] at e1
  have e2 : V.int ns[i] = v := Option.some.inj e1
  rw [← e2] at rv
  obtain ⟨t, e3⟩ := rv
  exact ⟨t, by rw [e3]; simp [List.getD, List.getElem?_eq_getElem hi2]⟩
def fSumV (f : FE) : FE := fun ρ μ => (f ρ μ).bind fun s μ1 => match dictAt s μ1 with
  | some (_, vs) => (match intsOf vs with
    | some ns => okV (.int ns.sum) μ1
    | none => .stuck)
  | none => .stuck
theorem de_sumV {X : Cx} {P : PX} {W : WX} {a : Expr} {fa : FE} {p pos apos cpos : Pos} (hc : X.calm = true) (hg : Gl X "sum") (hm : X.mg "sum" = none) (ha : DE X P W a fa)
    (hbase : attributeBase a "values" X.env (eval a X.env) = eval a X.env := by rfl) (hline : (apos.endLine == cpos.line) = true := by rfl)
    (na : starEach [.Call (.Attribute a "values" apos) [] [] cpos] X.env = (false, eval (.Call (.Attribute a "values" apos) [] [] cpos) X.env) :: starEach [] X.env := by rfl) :
    DE X P W (.Call (.Name "sum" p) [.Call (.Attribute a "values" apos) [] [] cpos] [] pos) (fSumV fa) := (pe_sumV hc hg hm ha hbase hline na).to fun σ H Q h => by
  obtain ⟨G, μ, ρ, he, h⟩ := h
  refine ⟨G, μ, ρ, he, Post.bind h fun s μ1 x G1 H1 x1 R1 r1 h1 => ?_⟩
  cases e : dictAt s μ1 with
  | none => rw [e] at h1; exact h1.elim
  | some kv =>
    obtain ⟨ks, vs⟩ := kv
    rw [e] at h1
    cases e2 : intsOf vs with
    | none => simp only [e2] at h1; exact h1.elim
    | some ns =>
      simp only [e2] at h1
      obtain ⟨ad, o, kvs, rfl, hd, dr, _, rr⟩ := (R1.now r1 (dictAt_ok e)).dT
      rw [intsOf_eq e2] at rr
      exact ⟨ad, o, kvs, rfl, hd, dr, ns, rr.ints, Post.val R1 h1 (.int _)⟩

/-! ### a if c else b, as a test -/
def fIfT (c f g : FT) : FT := fun ρ μ => (c ρ μ).bind fun b μ1 => if b = true then f ρ μ1 else g ρ μ1
theorem pt_ifE {X : Cx} {c a b : Expr} {pos : Pos} {tc ta tb : TT} (hc : PT X c tc) (ha : PT X a ta) (hb : PT X b tb) : PT X (.IfExp c a b pos) (fun σ H Q => tc σ H fun k H1 => if k = true then ta σ H1 Q else tb σ H1 Q) := by
  refine ⟨fun pins s σ H Q I h => isTrue_IfExp (thn (hc.run pins s σ H _ I h) fun k s1 ⟨H1, I1, q1⟩ => ?_)⟩
  cases k with
  | true => exact ha.run pins s1 σ H1 Q I1 q1
  | false => exact hb.run pins s1 σ H1 Q I1 q1
theorem dt_ifE {X : Cx} {P : PX} {W : WX} {c a b : Expr} {pos : Pos} {fc fa fb : FT} (hc : DT X P W c fc) (ha : DT X P W a fa) (hb : DT X P W b fb) : DT X P W (.IfExp c a b pos) (fIfT fc fa fb) := (pt_ifE hc ha hb).to fun σ H Q q => by
  obtain ⟨G, μ, ρ, he, h⟩ := q
  refine ⟨G, μ, ρ, he, Post.bind h fun s μ1 x G1 H1 x1 R1 r1 h1 => ?_⟩
  subst r1
  cases s with
  | true =>
    rw [if_pos rfl]
    rw [if_pos rfl] at h1
    exact ⟨G1, μ1, ρ, he.step x1 R1, h1⟩
  | false =>
    rw [if_neg Bool.false_ne_true]
    rw [if_neg Bool.false_ne_true] at h1
    exact ⟨G1, μ1, ρ, he.step x1 R1, h1⟩

/-! ### tuple * int; x *= y, x //= y of great ints -/
theorem tuple_mul1 (l : Addr) (items : Array Value) (n : Nat) (dd : Option Addr) (sl : Array (Option Value)) (x : Int) (u : Tok) (c0 : (decide (x < -(2 ^ 63)) || decide (x ≥ 2 ^ 63)) = false) (c1 : (items.isEmpty || x == 1) = true) :
    Meets (Builtin.«tuple.__mul__» ⟨[.ref l, .int x u], []⟩) (fun _ R s => s.heap.get? l = some { cls := .type "tuple", dict := dd, data := .seq items n, slots := sl } ∧
      R (.ok (.ret (Value.ref l))) s) :=
  .of_wp fun prog w A R s h => by
    obtain ⟨hp, g, d, tk, os⟩ := s
    obtain ⟨hl, h⟩ := h
    have f1 := AutoSeq1.idx_int
    wp_walk using wpAny_loadPart' hl
    repeat (first
      | (refine wpAny_ite_false (decide_eq_false (by rw [c0]; exact Bool.false_ne_true)) ?_; wp_walk using wpAny_loadPart' hl)
      | (refine wpAny_ite_true (decide_eq_true c1) ?_; wp_walk using wpAny_loadPart' hl))
    exact ⟨_, rfl, h⟩
theorem tuple_mul0 (l : Addr) (items : Array Value) (n : Nat) (dd : Option Addr) (sl : Array (Option Value)) (x : Int) (u : Tok) (c0 : (decide (x < -(2 ^ 63)) || decide (x ≥ 2 ^ 63)) = false) (c1 : (items.isEmpty || x == 1) = false) (c2 : (decide (x ≤ 0) || items.isEmpty) = true) :
    Meets (Builtin.«tuple.__mul__» ⟨[.ref l, .int x u], []⟩) (fun _ R s => s.heap.get? l = some { cls := .type "tuple", dict := dd, data := .seq items n, slots := sl } ∧
      R (.ok (.ret (Value.ref s.heap.objs.size))) { s with heap := s.heap.push { cls := Value.type "tuple", data := Data.seq #[] }, toks := s.toks }) :=
  .of_wp fun prog w A R s h => by
    obtain ⟨hp, g, d, tk, os⟩ := s
    obtain ⟨hl, h⟩ := h
    have f1 := AutoSeq1.idx_int
    wp_walk using wpAny_loadPart' hl
    repeat (first
      | (refine wpAny_ite_false (decide_eq_false (by rw [c0]; exact Bool.false_ne_true)) ?_; wp_walk using wpAny_loadPart' hl)
      | (refine wpAny_ite_false (decide_eq_false (by rw [c1]; exact Bool.false_ne_true)) ?_; wp_walk using wpAny_loadPart' hl)
      | (refine wpAny_ite_true (decide_eq_true c2) ?_; wp_walk using wpAny_loadPart' hl))
    exact ⟨_, rfl, h⟩
def repT (xs : List V) (k : Int) : List V := (List.replicate k.toNat xs).flatten
def rRepS (K : PySem.W.Frag) : R2 := fun x y H Q => ∃ l k xs, x = .ref l ∧ y = .int k ∧ SqT K H l xs ∧ -1000 ≤ k ∧ k ≤ 1000 ∧ xs.length ≤ 1000 ∧ ((xs = [] ∨ k = 1) → Q (.ref l) H) ∧
  (¬ (xs = [] ∨ k = 1) → ∀ p o, H p = none → Sol o → Q (.ref p) (upd H p (.frz o (.tup (repT xs k)))))
theorem op_repS {X : Cx} : OpR X (binaryOp .Mult) (rRepS X.K) := by
  intro pins s σ H x y v u Q I rx ry h
  obtain ⟨l, k, xs, rfl, rfl, hT, h1, h2, hz, q1, q2⟩ := h
  cases rx
  obtain ⟨t, rfl⟩ := ry
  obtain ⟨its, r, ⟨⟨cls, dd, data, sl⟩, ho, hc, n, hd⟩, hs⟩ := I.tuple hT
  simp only at hc hd
  subst hc hd
  have hle : its.length = xs.length := r.length.symm
  have c0 : (decide (k < -(2 ^ 63)) || decide (k ≥ 2 ^ 63)) = false := by
    rw [decide_eq_false (by omega), decide_eq_false (by omega)] <;> rfl
  have hsz0 : its.toArray.size = xs.length := by rw [List.size_toArray, hle]
  have hnil : its = [] ↔ xs = [] := by rw [← List.length_eq_zero_iff, ← List.length_eq_zero_iff, hle]
  have hem : its.toArray.isEmpty = decide (xs = []) := by
    by_cases e : xs = []
    · have e2 := hnil.mpr e
      subst e2
      rw [decide_eq_true e]
      rfl
    · rw [decide_eq_false e]
      cases its with
      | nil => exact absurd (hnil.mp rfl) e
      | cons a b => rfl
  refine wpAny_binaryOp_repeat_ref (T := "tuple") (U := "int") (by decide) ⟨_, ho, rfl⟩ (fun s' => typeIs_int s' k t) noFill_tuple_mul PySem.F.fills_int_mul PySem.F.slot_int_rmul repeat_tuple PySem.F.slot_int_index.lookup
    (call_meets PySem.F.slot_int_rmul (typeIs_int s k t) PySem.F.entry_int_rmul (PySem.F.args_int_rmul_2 _ _) (int_rmul_tuple k t l its.toArray n dd sl) ⟨ho, rfl, ⟨_, ho, rfl⟩, ?_⟩)
  by_cases e1 : xs = [] ∨ k = 1
  · have c1 : (its.toArray.isEmpty || k == 1) = true := by
      rw [hem]
      rcases e1 with e | e
      · rw [decide_eq_true e]; rfl
      · rw [e]; simp
    exact call_meets PySem.F.slot_tuple_mul ⟨_, ho, rfl⟩ PySem.F.entry_tuple_mul (PySem.F.args_tuple_mul_2 _ _) (tuple_mul1 l its.toArray n dd sl k t c0 c1) ⟨ho, .ref l, H, I, rfl, q1 e1⟩
  · have e2 : xs ≠ [] := fun z => e1 (.inl z)
    have e3 : k ≠ 1 := fun z => e1 (.inr z)
    have c1 : (its.toArray.isEmpty || k == 1) = false := by
      rw [hem, decide_eq_false e2, Bool.false_or]
      exact beq_eq_false_iff_ne.mpr e3
    by_cases e4 : k ≤ 0
    · have c2 : (decide (k ≤ 0) || its.toArray.isEmpty) = true := by rw [decide_eq_true e4]; rfl
      refine call_meets PySem.F.slot_tuple_mul ⟨_, ho, rfl⟩ PySem.F.entry_tuple_mul (PySem.F.args_tuple_mul_2 _ _) (tuple_mul0 l its.toArray n dd sl k t c0 c1 c2) ⟨ho, ?_⟩
      obtain ⟨J, nn⟩ := sol_laid (xs := []) (us := []) (t := s.toks) I .nil (Nat.zero_le _)
      have q := q2 e1 _ _ nn (sol_new [])
      have ek : repT xs k = [] := by
        unfold repT
        rw [show k.toNat = 0 by omega]
        rfl
      rw [ek] at q
      exact ⟨.ref _, _, J, rfl, q⟩
    · have c2 : (decide (k ≤ 0) || its.toArray.isEmpty) = false := by
        rw [hem, decide_eq_false e2, decide_eq_false e4]
        rfl
      have hm : ((its.toArray.size : Nat) : Int) * k ≤ 1000000 := by
        rw [hsz0]
        have a1 : ((xs.length : Nat) : Int) * k ≤ 1000 * k := Int.mul_le_mul_of_nonneg_right (by omega) (by omega)
        omega
      have hlim : k.toNat * xs.length ≤ 1000 * 1000 := Nat.mul_le_mul (by omega) hz
      have flen : (List.replicate k.toNat its).flatten.length ≤ sizeLine := by
        rw [PyProof.Rows.lm_len_rep_flat, hle, sizeLine_eq]
        omega
      have c4 : Builtin.Tuple.tupleTooMany (((its.toArray.size : Nat) : Int) * k) = false := by
        unfold Builtin.Tuple.tupleTooMany
        rw [sizeLine_eq]
        exact decide_eq_false (by omega)
      refine call_meets PySem.F.slot_tuple_mul ⟨_, ho, rfl⟩ PySem.F.entry_tuple_mul (PySem.F.args_tuple_mul_2 _ _) (tuple_mulW l its.toArray n dd sl k t c0 c1 c2 (by omega) c4 (by rw [size_rep, List.size_toArray]; exact flen)) ⟨ho, ?_⟩
      rw [size_rep]
      obtain ⟨J, nn⟩ := sol_laid (t := s.toks) I (r.rep k.toNat) (by rw [PyProof.Rows.lm_len_rep_flat, sizeLine_eq]; omega)
      exact ⟨.ref _, _, J, rfl, q2 e1 _ _ nn (sol_new _)⟩
/-- * of ints of any size, of lists, of tuples -/
def mulA (nb : Bool) : D → D → Store → Out Sl
  | .int i, .int j, μ => if i.natAbs.log2 + j.natAbs.log2 < 1000000 then okV (.int (i * j)) μ else .stuck
  | .lst a, .int k, μ => if a.length * k.toNat ≤ lim ∧ k.natAbs < 2 ^ 62 then mk nb (.lst (List.replicate k.toNat a).flatten) μ else .stuck
  | .tup a, .int k, μ => if -1000 ≤ k ∧ k ≤ 1000 ∧ a.length ≤ 1000 then okV (.tup (List.replicate k.toNat a).flatten) μ else .stuck
  | _, _, _ => .stuck
abbrev rMulA (K : PySem.W.Frag) : R2 := fun x y H Q => rI CMulW (fun i j => .int (i * j)) x y H Q ∨ (rRep x y H Q ∨ rRepS K x y H Q)
theorem opr_mulA {X : Cx} : OpR X (binaryOp .Mult) (rMulA X.K) := op_mulW.or (op_rep.or op_repS)
theorem opd_mulA (nb : Bool) {K : PySem.W.Frag} : OpD K (rMulA K) (g2 (mulA nb)) := by
  refine opd fun G μ H σ W a b x y Q R ra rb p => ?_
  unfold mulA at p
  split at p
  · split at p
    · rename_i h
      rw [ra.int, rb.int]
      exact .inl ⟨_, _, rfl, rfl, h, Post.val R p (.int _)⟩
    · exact p.elim
  · rename_i ds k
    by_cases hl : ds.length * k.toNat ≤ lim ∧ k.natAbs < 2 ^ 62
    · rw [if_pos hl] at p
      obtain ⟨t, xs, rfl, h1, r1⟩ := ra.lst
      rw [rb.int]
      refine .inr (.inl ⟨t, k, xs, rfl, rfl, h1, by omega, by omega, by rw [← r1.length, sizeLine_lim]; exact hl.1, fun q hq => Post.mkL R p hq (RepL.rep r1 _)⟩)
    · rw [if_neg hl] at p; exact p.elim
  · rename_i ds k
    by_cases hl : -1000 ≤ k ∧ k ≤ 1000 ∧ ds.length ≤ 1000
    · rw [if_pos hl] at p
      obtain ⟨t, xs, rfl, h1, r1⟩ := ra.tup
      rw [rb.int]
      refine .inr (.inr ⟨t, k, xs, rfl, rfl, h1.sq, hl.1, hl.2.1, by rw [← r1.length]; exact hl.2.2, fun e => ?_, fun _ q o hq so => Post.mkT R p hq so (RepL.rep r1 _)⟩)
      have e2 : (List.replicate k.toNat ds).flatten = ds := by
        rcases e with e | e
        · have : ds = [] := by rw [← List.length_eq_zero_iff, r1.length, e]; rfl
          subst this
          induction k.toNat with
          | zero => rfl
          | succ n ih => rw [List.replicate_succ, List.flatten_cons, ih]; rfl
        · rw [e]
          show (List.replicate 1 ds).flatten = ds
          simp
      rw [e2] at p
      exact Post.val R p (.tup h1 r1)
    · rw [if_neg hl] at p; exact p.elim
  · exact p.elim
def imulW : D → D → Store → Out Sl
  | .int i, .int j, μ => if i.natAbs.log2 + j.natAbs.log2 < 1000000 then okV (.int (i * j)) μ else .stuck
  | _, _, _ => .stuck
theorem iop_mulW {X : Cx} : OpR X (inplaceOp .Mult) (rI CMulW fun i j => .int (i * j)) := opI fun _ _ _ _ _ _ _ hc q => imul_int q hc.ok
theorem opd_imulW {K : PySem.W.Frag} : OpD K (rI CMulW fun i j => .int (i * j)) (g2 imulW) := by
  refine opd fun G μ H σ W a b x y Q R ra rb p => ?_
  unfold imulW at p
  split at p
  · split at p
    · rename_i h
      rw [ra.int, rb.int]
      exact ⟨_, _, rfl, rfl, h, Post.val R p (.int _)⟩
    · exact p.elim
  · exact p.elim
def ifdivW : D → D → Store → Out Sl
  | .int i, .int j, μ => if 0 < j ∧ j.natAbs.log2 < 9000 then okV (.int (i / j)) μ else .stuck
  | _, _, _ => .stuck
theorem opd_ifdivW {K : PySem.W.Frag} : OpD K (rI CDivW fun i j => .int (i / j)) (g2 ifdivW) := by
  refine opd fun G μ H σ W a b x y Q R ra rb p => ?_
  unfold ifdivW at p
  split at p
  · split at p
    · rename_i h
      rw [ra.int, rb.int]
      exact ⟨_, _, rfl, rfl, h, Post.val R p (.int _)⟩
    · exact p.elim
  · exact p.elim
end DL

namespace DL
open PySem PySem.Spec PyProof.Rows L2

/-! ### sorted(x): of lists, tuples, dicts; a row of one empty tuple -/
section
variable {prog : Program} {w : World} {A : Around} {E : Value → Shared → Prop} {s : Shared}
open PySem.W in
theorem sortsOne {vs : List Value} (e : EachIs (fun v d => ∃ as, Reads s.heap v d as) vs [PyData.tuple []]) : SortsAt prog w A s (dataKind s.heap [PyData.tuple []]) vs := by
  have hal : AllAlike [PyData.tuple []] := fun d hd d' hd' => by
    rw [List.mem_singleton.mp hd, List.mem_singleton.mp hd']
    rfl
  refine ⟨fun v hv => ?_, tuples' false, fun E x y a b Q ha hb hq => ?_, fun h2 => ?_⟩
  · obtain ⟨d, hd, as, r⟩ := e.left v hv
    exact ⟨_, dataKind_some hal hd r⟩
  · obtain ⟨d, as, hd, ra, rfl⟩ := dataKind_inv ha
    obtain ⟨d', as', hd', rb, rfl⟩ := dataKind_inv hb
    obtain rfl := List.mem_singleton.mp hd
    obtain rfl := List.mem_singleton.mp hd'
    cases ra with
    | @tuple l o xs n _ _ h1 h2 h3 h4 =>
      cases rb with
      | @tuple l' o' xs' n' _ _ k1 k2 k3 k4 =>
        have e1 : xs.toList = [] := by generalize xs.toList = z at h4; cases h4; rfl
        have e2 : xs'.toList = [] := by generalize xs'.toList = z at k4; cases k4; rfl
        refine kat_lt h1 h3 k1 k3 ?_
        rw [e1, e2]
        refine kat_nil ?_
        have n1 : xs.size = 0 := by rw [← Array.length_toList, e1]; rfl
        have n2 : xs'.size = 0 := by rw [← Array.length_toList, e2]; rfl
        rw [n1, n2]
        exact hq
  · rw [e.length] at h2
    exact absurd h2 (by decide)
abbrev KeptH (h h' : Heap) : Prop := ∀ b o, h.get? b = some o → h'.get? b = some o
theorem sorted_coll {l : Addr} {vs : List Value} {kw : List (Str × Value)} {Q : Value → Shared → Prop} (hL : vs.length ≤ sizeLine) (ha1 : argsOk "sorted" ⟨[.ref l], kw⟩) (ha2 : ∀ x, argsOk "list.sort" ⟨[.ref x], kw⟩)
    (hcol : ∀ (R : List Value → Shared → Prop) (E' : Value → Shared → Prop), (∀ h' tk, KeptH s.heap h' → R vs { s with heap := h', toks := tk }) → wpAny (model prog w) A.in1 (collect (.ref l)) R E' s)
    (body : ∀ h' tk, KeptH s.heap h' → ∀ E' : Value → Shared → Prop, wpAny (model prog w) A.in1.in1 (Builtin.«list.sort» ⟨[.ref h'.objs.size], kw⟩) (fun f s' => f = .done (.ret .none) ∧ Q (.ref h'.objs.size) s') E' { s with heap := h'.push (seqObj "list" vs.toArray 0), toks := tk }) :
    wpAny (model prog w) A (call (.builtin "sorted") [.ref l] kw) Q E s := by
  refine call_function_entry_kw kind_sorted plain_sorted entry_sorted ha1 (?_ : wpAny _ _ (Builtin.«sorted» _) _ _ _)
  unfold Builtin.«sorted»
  refine wpAny_bind (m := checkCount "sorted" 1 1 _) (wpAny_pure (wpAny_bind (hcol _ _ fun h' tk hk => wpAny_bind (wpAny_newList ?_ hL))))
  refine wpAny_bind (wpAny_holding (wpAny_call_entry_kw slot_list_sort ⟨_, Heap.get?_push_size _ rfl, rfl⟩ entry_list_sort (show wpAny (model prog w) A.in1.in1 (Builtin.«list.sort» ⟨[.ref h'.objs.size], kw⟩) _ _ _ from wpAny_mono (body h' tk hk _) (fun f s' hf => ?_) fun _ _ e => e) (ha2 _)))
  obtain ⟨rfl, hq⟩ := hf
  exact ⟨_, rfl, wpAny_pure ⟨_, rfl, hq⟩⟩
open PySem.W in
theorem sort_data3 {β : Type} {R : Value → β → Prop} {enc : β → PyData} {bs : List β} {l : Addr} {vs : List Value} (ob : Option Bool) {Q : Value → Shared → Prop}
    (hcol : ∀ (R : List Value → Shared → Prop) (E' : Value → Shared → Prop), (∀ h' tk, KeptH s.heap h' → R vs { s with heap := h', toks := tk }) → wpAny (model prog w) A.in1 (collect (.ref l)) R E' s)
    (e : EachIs R vs bs) (er : EachIs (fun v b => ∃ as, Reads s.heap v (enc b) as) vs bs) (hal : AllAlike (bs.map enc)) (hk : Sortable (bs.map enc) ∨ bs.map enc = [PyData.tuple []]) (hL : bs.length ≤ sizeLine)
    (hu : ∀ b, b ∈ bs → A.units + 2 + (enc b).depth < cLine) (h : ∀ h' tk out, KeptH s.heap h' → out.length = bs.length → EachIs R out (bs.mergeSort (dataLe (ob.getD false) enc)) → Q (.ref h'.objs.size) { s with heap := sortedHeap (h'.push (seqObj "list" vs.toArray 0)) h'.objs.size vs (List.toArray out), toks := tk }) :
    wpAny (model prog w) A (call (.builtin "sorted") [.ref l] (kwOf ob)) Q E s := by
  have hLv : vs.length ≤ sizeLine := by rw [e.length]; exact hL
  have SA : ∀ h' tk, KeptH s.heap h' → ∃ κ, (κ = dataKind (sortingHeap (h'.push (seqObj "list" vs.toArray 0)) h'.objs.size vs) (bs.map enc)) ∧ SortsAt prog w A.in1.in1 { s with heap := sortingHeap (h'.push (seqObj "list" vs.toArray 0)) h'.objs.size vs, toks := tk } κ vs ∧
      EachIs (fun v b => ∃ as, Reads (sortingHeap (h'.push (seqObj "list" vs.toArray 0)) h'.objs.size vs) v (enc b) as) vs bs := by
    intro h' tk hk'
    have kp : ∀ {b : Addr} {o : Obj}, s.heap.get? b = some o → (sortingHeap (h'.push (seqObj "list" vs.toArray 0)) h'.objs.size vs).get? b = some o := fun {b o} q => by
      have q' := hk' _ _ q
      exact sortingHeap_old (Nat.ne_of_lt (Heap.lt_size q')) (Heap.get?_push_of_some _ q')
    have ek : EachIs (fun v b => ∃ as, Reads (sortingHeap (h'.push (seqObj "list" vs.toArray 0)) h'.objs.size vs) v (enc b) as) vs bs := er.mono fun _ _ ⟨as, r⟩ => ⟨as, PyProof.Rows.Reads.keeps (fun _ _ q => kp q) r⟩
    refine ⟨_, rfl, ?_, ek⟩
    have em := each_map (R := fun v d => ∃ as, Reads (sortingHeap (h'.push (seqObj "list" vs.toArray 0)) h'.objs.size vs) v d as) enc ek
    rcases hk with hk | hk
    · exact SortsAt.data (s := { s with heap := sortingHeap (h'.push (seqObj "list" vs.toArray 0)) h'.objs.size vs, toks := tk }) em hal hk (bound_map (A := A.in1.in1) hu)
    · rw [hk] at em ⊢
      exact sortsOne (s := { s with heap := sortingHeap (h'.push (seqObj "list" vs.toArray 0)) h'.objs.size vs, toks := tk }) em
  cases ob with
  | none =>
    refine sorted_coll hLv (args_sorted1 _) (fun _ => args_list_sort _) hcol fun h' tk hk' E' => ?_
    obtain ⟨κ, ek, S, er'⟩ := SA h' tk hk'
    subst ek
    exact list_sort_vals (s := { s with heap := h'.push (seqObj "list" vs.toArray 0), toks := tk }) (Heap.get?_push_size _ rfl) S hLv ⟨rfl, h h' tk _ hk' (by rw [sortVals_length false rfl]; exact e.length) (sortVals_data false e er' hal)⟩
  | some b =>
    refine sorted_coll hLv (args_sorted_rev _ _) (fun _ => args_list_sort_rev _ _) hcol fun h' tk hk' E' => ?_
    obtain ⟨κ, ek, S, er'⟩ := SA h' tk hk'
    subst ek
    exact list_sort_rev_vals (s := { s with heap := h'.push (seqObj "list" vs.toArray 0), toks := tk }) (Heap.get?_push_size _ rfl) S hLv ⟨rfl, h h' tk _ hk' (by rw [sortVals_length b rfl]; exact e.length) (sortVals_data b e er' hal)⟩
end
/-- a list, a tuple, a dict (its keys): the row ds -/
def SrcD (K : PySem.W.Frag) (H : Hp) (a : Addr) (ds : List D) (Rv : D → V → Prop) : Prop :=
  (∃ xs, (SqL K H a xs ∨ SqT K H a xs) ∧ Paired Rv ds xs) ∨ ∃ o kvs, H a = some (dro a o) ∧ DRaw K H a o kvs ∧ ds = kvs.map (fun p => D.tup (p.1.map D.int)) ∧ ∀ (k : List Int) (b : Addr), TupAt K H b (k.map V.int) → D.tup (k.map D.int) ∈ ds → Rv (.tup (k.map D.int)) (.ref b)
def rSort3 (K : PySem.W.Frag) (b : Bool) : List V → Hp → VK → Prop := fun vs H Q => ∃ (a : Addr) (ds : List D) (Rv : D → V → Prop), vs = [.ref a] ∧ SrcD K H a ds Rv ∧ (∀ d v, Rv d v → Dp K H v d.py) ∧
  PySem.W.AllAlike (ds.map D.py) ∧ (PySem.W.Sortable (ds.map D.py) ∨ ds.map D.py = [PyData.tuple []]) ∧ (∀ d ∈ ds, d.py.depth ≤ 64) ∧
  ∀ ys p, Paired Rv (ds.mergeSort (PySem.W.dataLe b D.py)) ys → H p = none → Q (.ref p) (upd H p (.lst ys))
theorem srcD_col {X : Cx} {pins : List (Addr × Obj)} {σ : L2.St} {H : Hp} {s : Shared} {a : Addr} {ds : List D} {Rv : D → V → Prop} (I : Inv X pins σ H s) (hh : X.A.handled = none) (h : SrcD X.K H a ds Rv) :
    ∃ vs : List Value, (∃ xs, Vals xs vs ∧ Paired Rv ds xs) ∧ vs.length ≤ sizeLine ∧ ∀ (R : List Value → Shared → Prop) (E' : Value → Shared → Prop), (∀ h' tk, KeptH s.heap h' → R vs { s with heap := h', toks := tk }) → wpAny (model X.prog X.w) X.A.in1 (collect (.ref a)) R E' s := by
  rcases h with ⟨xs, hs, hp⟩ | ⟨o, kvs, hd, dr, eds, hr⟩
  · obtain ⟨its, rv, hl, hz⟩ := srcL I hs
    have hz' : its.length ≤ sizeLine := by rw [← rv.length]; exact hz
    refine ⟨its, ⟨xs, rv, hp⟩, hz', fun R E' q => coll_src hl hz' (q _ s.toks fun b o e => ?_)⟩
    rw [Heap.get?_update_ne _ _ _ _ (Nat.ne_of_lt (Heap.lt_size e))]
    exact Heap.get?_push_of_some _ e
  · obtain ⟨es, ep, hdt, hm, hz, ent⟩ := draw_raw I hd dr
    have hn : es.size ≤ sizeLine := by rw [hz]; exact dr.2.1
    have Kd : PySem.W.KdlSrc X.prog X.w "dict" a a es.size (fun i v => ∃ hi : i < es.size, v = es[i].key) (fun h => h.DictRaw a es ep) := PySem.KdlSrc.rawDict dr.1
    refine ⟨es.toList.map (·.key), ?_, by simpa using hn, fun R E' q => PySem.W.kdu_collect Kd hh hm hn fun h' tk acc hk hi => ?_⟩
    · have key : ∀ n, n ≤ es.size → ∃ xs, Vals xs ((es.toList.map (·.key)).take n) ∧ Paired Rv (ds.take n) xs := by
        intro n
        induction n with
        | zero => exact fun _ => ⟨[], .nil, .nil⟩
        | succ n ih =>
          intro hn'
          obtain ⟨xs, r1, r2⟩ := ih (by omega)
          obtain ⟨k, v, b, hkv, ek, tb, rv⟩ := ent n (by omega)
          have e1 : (es.toList.map (·.key))[n]? = some (.ref b) := by
            rw [List.getElem?_map, Array.getElem?_toList, Array.getElem?_eq_getElem (by omega)]
            simp [ek]
          have e2 : ds[n]? = some (.tup (k.map D.int)) := by rw [eds, List.getElem?_map, hkv]; rfl
          refine ⟨xs ++ [.ref b], ?_, ?_⟩
          · rw [List.take_add_one, e1]
            exact r1.append (.cons rfl .nil)
          · rw [List.take_add_one, e2]
            exact Paired.snoc r2 (hr k b tb (List.mem_of_getElem? e2))
      obtain ⟨xs, r1, r2⟩ := key es.size (Nat.le_refl _)
      rw [List.take_of_length_le (by simp)] at r1
      rw [List.take_of_length_le (by rw [eds, List.length_map, hz]; exact Nat.le_refl _)] at r2
      exact ⟨xs, r1, r2⟩
    · have ea : acc.toList = es.toList.map (·.key) := by
        apply List.ext_getElem?
        intro i
        rw [Array.getElem?_toList, List.getElem?_map, Array.getElem?_toList]
        by_cases hi' : i < es.size
        · have hia : i < acc.size := by rw [hi.1]; exact hi'
          rw [Array.getElem?_eq_getElem hi', Array.getElem?_eq_getElem hia]
          obtain ⟨_, e⟩ := hi.2 i _ (Array.getElem?_eq_getElem hia)
          rw [e]
          rfl
        · rw [Array.getElem?_eq_none (by rw [hi.1]; omega), Array.getElem?_eq_none (by omega)]
          rfl
      rw [ea]
      exact q h' tk hk
theorem sort3_run {X : Cx} (hc : X.calm = true) (hu : X.A.units + 70 < cLine) (ob : Option Bool) {pins : List (Addr × Obj)} {s : Shared} {σ : L2.St} {H : Hp} {vs : List V} {us : List Value} {Q : VK} (I : Inv X pins σ H s) (r : Vals vs us) (h : rSort3 X.K (ob.getD false) vs H Q) :
    wpAny (model X.prog X.w) X.A (call (.builtin "sorted") us (kwOf ob)) (EP X pins σ Q) X.xe s := by
  obtain ⟨a, ds, Rv, rfl, hs, hd, hal, hso, hdep, q⟩ := h
  obtain ⟨its, ⟨xs, rv, hp⟩, hz, hcol⟩ := srcD_col I (I.ok.hd hc) hs
  rw [Vals.ref1 r]
  have e0 := each_of (X := X) (pins := pins) (σ := σ) (H := H) (s := s) hp rv
  refine sort_data3 (enc := D.py) ob hcol e0 (EachIs.mono' e0 fun u d ⟨v, r, h⟩ => Dp.reads I _ _ _ (hd _ _ h) r) hal hso (by rw [hp.length, rv.length]; exact hz) (fun b hb => by have := hdep b hb; omega) fun h' tk out hk hlen he => ?_
  obtain ⟨ys, r2, p2⟩ := of_each he
  obtain ⟨ep, he'⟩ := PyProof.Rows.sortedHeap_at (h := h'.push (seqObj "list" its.toArray 0)) (a := h'.objs.size) (vs := its) (n := 0) (out := out.toArray) (Heap.get?_push_size _ rfl)
  have J : Inv X pins σ H { s with heap := h', toks := tk } := I.kept hk
  refine ⟨.ref _, upd H h'.objs.size (.lst ys), J.laid (t' := tk) (fun b u hb => ?_) (Nat.le_refl _) ⟨?_, out, ep, r2, he'⟩, rfl, q ys _ p2 (J.hok.fresh (Nat.le_refl _))⟩
  · have hlt : b < h'.objs.size := Heap.lt_size hb
    rw [PyProof.Rows.sortedHeap_old (Nat.ne_of_lt hlt) (by rw [size_push']; exact Nat.lt_succ_of_lt hlt)]
    exact Heap.get?_push_of_some _ hb
  · rw [r2.length, hlen, hp.length, rv.length]
    exact hz
theorem cr_sort3 {X : Cx} (hc : X.calm = true) (hu : X.A.units + 70 < cLine) : CallR X (.builtin "sorted") (rSort3 X.K false) := fun pins s σ H vs us Q I r h => sort3_run hc hu none I r h
/-- a sort that can be run -/
def insS {α : Type} (le : α → α → Bool) (a : α) : List α → List α
  | [] => [a]
  | b :: r => if le a b = true then a :: b :: r else b :: insS le a r
def isrt {α : Type} (le : α → α → Bool) : List α → List α
  | [] => []
  | a :: l => insS le a (isrt le l)
theorem isrt_eq {α : Type} {le : α → α → Bool} (ht : ∀ a b c, le a b = true → le b c = true → le a c = true) (hT : ∀ a b, (le a b || le b a) = true) : ∀ l : List α, l.mergeSort le = isrt le l
  | [] => by simp [isrt]
  | a :: l => by
    obtain ⟨l₁, l₂, e1, e2, h⟩ := List.mergeSort_cons ht hT a l
    have so := List.pairwise_mergeSort ht hT (a :: l)
    rw [e1] at so ⊢
    show _ = insS le a (isrt le l)
    rw [← isrt_eq ht hT l, e2]
    clear e1 e2
    induction l₁ with
    | nil =>
      cases l₂ with
      | nil => rfl
      | cons b r =>
        have h1 : le a b = true := (List.pairwise_cons.mp so).1 b (by simp)
        show a :: b :: r = if le a b = true then a :: b :: r else b :: insS le a r
        rw [if_pos h1]
    | cons c l₁ ih =>
      have h1 := h c (by simp)
      show c :: (l₁ ++ a :: l₂) = if le a c = true then a :: c :: (l₁ ++ l₂) else c :: insS le a (l₁ ++ l₂)
      rw [if_neg (by simpa using h1), ← ih (fun b hb => h b (List.mem_cons_of_mem _ hb)) (List.pairwise_cons.mp so).2]
def isD (b : Bool) (ds : List D) : List D := isrt (PySem.W.dataLe b D.py) ds
theorem isD_eq (b : Bool) (ds : List D) : sortDr b ds = isD b ds := isrt_eq (fun a b c => (PySem.W.sortLe_total _ _ _).trans a b c) (fun a b => by rw [Bool.or_eq_true]; exact (PySem.W.sortLe_total _ _ _).total a b) ds
/-- the row of a list, a tuple, a dict -/
def rowOf : D → Option (List D)
  | .dT ks _ => some (ks.map fun (k : List Int) => D.tup (k.map D.int))
  | d => seqOf d
def sortOk3 (ds : List D) : Bool := sortOk ds || (match ds with | [.tup []] => true | _ => false)
def sortF3 (nb b : Bool) : D → Store → Out Sl := fun d μ => match rowOf d with
  | some ds => if sortOk3 ds = true then mk nb (.lst (isD b ds)) μ else .stuck
  | none => .stuck
theorem sortOk3_ok {ds : List D} (h : sortOk3 ds = true) : (∀ d ∈ ds, SeqAt.shaped d.py = true) ∧ PySem.W.AllAlike (ds.map D.py) ∧ (PySem.W.Sortable (ds.map D.py) ∨ ds.map D.py = [PyData.tuple []]) := by
  unfold sortOk3 at h
  rcases Bool.or_eq_true_iff.mp h with hk | hk
  · obtain ⟨h1, h2⟩ := Bool.and_eq_true_iff.mp hk
    obtain ⟨h3, h4⟩ := Bool.and_eq_true_iff.mp h2
    refine ⟨fun d m => List.all_eq_true.mp h1 d m, fun d hd d' hd' => ?_, .inl ?_⟩
    · obtain ⟨u, m, rfl⟩ := List.mem_map.mp hd
      obtain ⟨v, n, rfl⟩ := List.mem_map.mp hd'
      exact List.all_eq_true.mp (List.all_eq_true.mp h3 u m) v n
    · rcases Bool.or_eq_true_iff.mp h4 with z | z
      · refine .inl fun d hd => ?_
        obtain ⟨u, m, rfl⟩ := List.mem_map.mp hd
        have w := List.all_eq_true.mp z u m
        unfold isTN at w
        split at w
        · rename_i x r e
          exact ⟨x, r, e⟩
        · cases w
      · refine .inr fun d hd => ?_
        obtain ⟨u, m, rfl⟩ := List.mem_map.mp hd
        have w := List.all_eq_true.mp z u m
        constructor
        · intro e; rw [e] at w; cases w
        · intro xs e; rw [e] at w; cases w
  · split at hk
    · refine ⟨fun d m => ?_, fun d hd d' hd' => ?_, .inr rfl⟩
      · rw [List.mem_singleton.mp m]; rfl
      · rw [List.mem_singleton.mp hd, List.mem_singleton.mp hd']; rfl
    · cases hk
theorem cld_sort3 {K : PySem.W.Frag} (nb b : Bool) : CallD K (rSort3 K b) (gc1 (sortF3 nb b)) := cld1 fun G μ H σ W a x Q R ra p => by
  unfold sortF3 at p
  cases es : rowOf a with
  | none => rw [es] at p; exact p.elim
  | some ds =>
    rw [es] at p
    simp only at p
    by_cases hk : sortOk3 ds = true
    · rw [if_pos hk, ← isD_eq] at p
      obtain ⟨sh, al, so⟩ := sortOk3_ok hk
      have src : ∃ c, x = .ref c ∧ SrcD K H c ds (fun d v => Rep K G.F H d v ∧ SeqAt.shaped d.py = true) := by
        by_cases hdt : ∃ ks vs, a = .dT ks vs
        · obtain ⟨ks, vs, rfl⟩ := hdt
          cases es
          obtain ⟨ad, o, kvs, rfl, hd, dr, rfl, rr⟩ := ra.dT
          refine ⟨ad, rfl, .inr ⟨o, kvs, hd, dr, by rw [List.map_map]; rfl, fun k b tb m => ⟨.tup tb (RepL.ofInts k), sh _ m⟩⟩⟩
        · have es' : seqOf a = some ds := by
            cases a with
            | dT ks vs => exact absurd ⟨ks, vs, rfl⟩ hdt
            | _ => exact es
          obtain ⟨c, xs, rfl, hb, r⟩ := ra.seq es'
          exact ⟨c, rfl, .inl ⟨xs, hb, paired_and r.paired sh⟩⟩
      obtain ⟨c, rfl, hs⟩ := src
      exact ⟨c, ds, _, rfl, hs, fun d v q => q.1.dp (SeqAt.canLay_of_shaped q.2), al, so, fun d m => SeqAt.depth_of_shaped (sh d m), fun ys q hy hq => Post.mkL R p hq (RepL.ofPaired (Paired.mapP hy fun _ _ q => q.1))⟩
    · rw [if_neg hk] at p
      exact p.elim
theorem crk_sort3 {X : Cx} (hc : X.calm = true) (hu : X.A.units + 70 < cLine) (b : Bool) : CallRK X (.builtin "sorted") [Str.ofString "reverse"] (fun vs zs H Q => zs = [.bl b] ∧ rSort3 X.K b vs H Q) := by
  intro pins s σ H vs zs us ws Q I r rz h
  obtain ⟨rfl, h⟩ := h
  obtain ⟨w1, rfl, e1⟩ := vals1 rz
  obtain rfl : w1 = Value.bool b := e1
  exact sort3_run hc hu (some b) I r h
section
variable {X : Cx} {P : PX} {W : WX} {e : Expr} {fg : FA} {pos p : Pos}
/-- sorted(e, reverse=b) -/
theorem de_sortRev3 (nb b : Bool) {j : Nat} {kp kpos : Pos} (hc : X.calm = true) (hu : X.A.units + 70 < cLine) (hg : Gl X "sorted") (hm : X.mg "sorted" = none) (ha : DA X P W [e] fg) (h1 : backTo pos (starEach [e] X.env) = (false, eval e X.env) :: backTo pos (starEach [] X.env) := by rfl) (h2 : (backTo pos (starEach [e] X.env)).any (·.1) = false := by rfl) :
    DE X P W (.Call (.Name "sorted" p) [e] [⟨some "reverse", .Constant (.bool b) j kp, kpos⟩] pos) (fCall (gc1 (sortF3 nb b)) fg) :=
  (pe_callBK (crk_sort3 hc hu b) hg hm PyProof.Rows.boot_sorted ha.pa (pk_cons (pe_bl (b := b)) pk_nil) (he := h1) (hpl := h2)).to fun σ H Q h => by
    obtain ⟨G, μ, ρ, he, h⟩ := h
    exact ⟨G, μ, ρ, he, Post.bind h fun ss μ1 vs G1 H1 x1 R1 r1 h3 => ⟨rfl, cld_sort3 nb b G1 μ1 H1 σ W ss vs Q R1 r1 h3⟩⟩
end
end DL

namespace k94
open PySem PySem.Spec PyProof.Rows L2 DL PT
abbrev pw : Program := PySem.Challenge.pw_tablework_k94_whole_counts_of_sign_matri
abbrev top (i : Nat) : Stmt := pw.main.body.getD i (.Pass ⟨0, 0, 0, 0⟩)
abbrev s__law_deck : Stmt := top 15
theorem sc__law_deck : FnScope ["script", "cells", "each", "deck", "seed", "k", "cell", "rest", "at"] ["script", "cells", "each"] (defScope s__law_deck) := ⟨rfl, rfl, rfl, by decide +kernel, rfl, by decide +kernel, by decide +kernel⟩
abbrev s__law_take : Stmt := top 16
theorem sc__law_take : FnScope ["deck", "many"] ["deck", "many"] (defScope s__law_take) := ⟨rfl, rfl, rfl, by decide +kernel, rfl, by decide +kernel, by decide +kernel⟩
abbrev s__law_good : Stmt := top 18
theorem sc__law_good : FnScope ["row", "signs", "number", "at"] ["row"] (defScope s__law_good) := ⟨rfl, rfl, rfl, by decide +kernel, rfl, by decide +kernel, by decide +kernel⟩
abbrev s__law_rows : Stmt := top 20
theorem sc__law_rows : FnScope ["size", "found", "turn", "longer", "row", "number"] ["size"] (defScope s__law_rows) := ⟨rfl, rfl, rfl, by decide +kernel, rfl, by decide +kernel, by decide +kernel⟩
abbrev s__law_alternates : Stmt := top 19
theorem sc__law_alternates : FnScope ["rows", "at", "row"] ["rows"] (defScope s__law_alternates) := ⟨rfl, rfl, rfl, by decide +kernel, rfl, by decide +kernel, by decide +kernel⟩
abbrev s__law_matrices : Stmt := top 21
theorem sc__law_matrices : FnScope ["size", "found", "turn", "longer", "rows", "row", "sums", "at", "number", "line"] ["size"] (defScope s__law_matrices) := ⟨rfl, rfl, rfl, by decide +kernel, rfl, by decide +kernel, by decide +kernel⟩
abbrev s_ratio : Stmt := top 4
theorem sc_ratio : FnScope ["above", "below", "found", "number"] ["above", "below"] (defScope s_ratio) := ⟨rfl, rfl, rfl, by decide +kernel, rfl, by decide +kernel, by decide +kernel⟩
abbrev s_factorial : Stmt := top 9
theorem sc_factorial : FnScope ["number", "found", "factor"] ["number"] (defScope s_factorial) := ⟨rfl, rfl, rfl, by decide +kernel, rfl, by decide +kernel, by decide +kernel⟩
abbrev s_count_alternating : Stmt := top 10
theorem sc_count_alternating : FnScope ["n", "above", "at"] ["n"] (defScope s_count_alternating) := ⟨rfl, rfl, rfl, by decide +kernel, rfl, by decide +kernel, by decide +kernel⟩
abbrev s_count_refined : Stmt := top 13
theorem sc_count_refined : FnScope ["n", "found", "place", "ways", "above"] ["n"] (defScope s_count_refined) := ⟨rfl, rfl, rfl, by decide +kernel, rfl, by decide +kernel, by decide +kernel⟩
abbrev s_rows_above : Stmt := top 11
theorem sc_rows_above : FnScope ["row", "found", "at", "longer", "begun", "number"] ["row"] (defScope s_rows_above) := ⟨rfl, rfl, rfl, by decide +kernel, rfl, by decide +kernel, by decide +kernel⟩
abbrev s_count_alternating_by_triangles : Stmt := top 12
theorem sc_count_alternating_by_triangles : FnScope ["n", "found", "_", "longer", "row", "many", "above"] ["n"] (defScope s_count_alternating_by_triangles) := ⟨rfl, rfl, rfl, by decide +kernel, rfl, by decide +kernel, by decide +kernel⟩
abbrev s__law_plain : Stmt := top 17
theorem sc__law_plain : FnScope ["value", "item"] ["value"] (defScope s__law_plain) := ⟨rfl, rfl, rfl, by decide +kernel, rfl, by decide +kernel, by decide +kernel⟩
abbrev s__law_power : Stmt := top 22
theorem sc__law_power : FnScope ["many", "found", "turn"] ["many"] (defScope s__law_power) := ⟨rfl, rfl, rfl, by decide +kernel, rfl, by decide +kernel, by decide +kernel⟩
abbrev s_sign_rows : Stmt := top 7
theorem sc_sign_rows : FnScope ["size", "found", "_", "longer", "row", "total", "number"] ["size"] (defScope s_sign_rows) := ⟨rfl, rfl, rfl, by decide +kernel, rfl, by decide +kernel, by decide +kernel⟩
abbrev s_alternating_matrices : Stmt := top 8
theorem sc_alternating_matrices : FnScope ["n", "rows", "found", "_", "longer", "matrix", "sums", "row", "after", "total", "number"] ["n"] (defScope s_alternating_matrices) := ⟨rfl, rfl, rfl, by decide +kernel, rfl, by decide +kernel, by decide +kernel⟩
abbrev s_law : Stmt := top 23
theorem sc_law : FnScope ["script", "deck", "size", "due", "told", "places", "total", "rows", "great", "middle", "at", "row"] ["script"] (defScope s_law) := ⟨rfl, rfl, rfl, by decide +kernel, rfl, by decide +kernel, by decide +kernel⟩
abbrev s_TooMany : Stmt := inClass (top 2) 0
theorem sc_TooMany : FnScope ["self", "what"] ["self", "what"] (defScope s_TooMany) := ⟨rfl, rfl, rfl, by decide +kernel, rfl, by decide +kernel, by decide +kernel⟩
structure Fx (K : PySem.W.Frag) (mg : Str → Option Value) (fd__law_deck fd__law_take fd__law_good fd__law_rows fd__law_alternates fd__law_matrices fd_ratio fd_factorial fd_count_alternating fd_count_refined fd_rows_above fd_count_alternating_by_triangles fd__law_plain fd__law_power fd_sign_rows fd_alternating_matrices fd_law fi_TooMany : FuncData) : Prop where
  d__law_deck : FD K mg "_law_deck" (defArgs s__law_deck) (defBody s__law_deck) (defScope s__law_deck) ["script", "cells", "each"] fd__law_deck
  d__law_take : FD K mg "_law_take" (defArgs s__law_take) (defBody s__law_take) (defScope s__law_take) ["deck", "many"] fd__law_take
  d__law_good : FD K mg "_law_good" (defArgs s__law_good) (defBody s__law_good) (defScope s__law_good) ["row"] fd__law_good
  d__law_rows : FD K mg "_law_rows" (defArgs s__law_rows) (defBody s__law_rows) (defScope s__law_rows) ["size"] fd__law_rows
  d__law_alternates : FD K mg "_law_alternates" (defArgs s__law_alternates) (defBody s__law_alternates) (defScope s__law_alternates) ["rows"] fd__law_alternates
  d__law_matrices : FD K mg "_law_matrices" (defArgs s__law_matrices) (defBody s__law_matrices) (defScope s__law_matrices) ["size"] fd__law_matrices
  d_ratio : FD K mg "ratio" (defArgs s_ratio) (defBody s_ratio) (defScope s_ratio) ["above", "below"] fd_ratio
  d_factorial : FD K mg "factorial" (defArgs s_factorial) (defBody s_factorial) (defScope s_factorial) ["number"] fd_factorial
  d_count_alternating : FD K mg "count_alternating" (defArgs s_count_alternating) (defBody s_count_alternating) (defScope s_count_alternating) ["n"] fd_count_alternating
  d_count_refined : FD K mg "count_refined" (defArgs s_count_refined) (defBody s_count_refined) (defScope s_count_refined) ["n"] fd_count_refined
  d_rows_above : FD K mg "rows_above" (defArgs s_rows_above) (defBody s_rows_above) (defScope s_rows_above) ["row"] fd_rows_above
  d_count_alternating_by_triangles : FD K mg "count_alternating_by_triangles" (defArgs s_count_alternating_by_triangles) (defBody s_count_alternating_by_triangles) (defScope s_count_alternating_by_triangles) ["n"] fd_count_alternating_by_triangles
  d__law_plain : FD K mg "_law_plain" (defArgs s__law_plain) (defBody s__law_plain) (defScope s__law_plain) ["value"] fd__law_plain
  d__law_power : FD K mg "_law_power" (defArgs s__law_power) (defBody s__law_power) (defScope s__law_power) ["many"] fd__law_power
  d_sign_rows : FD K mg "sign_rows" (defArgs s_sign_rows) (defBody s_sign_rows) (defScope s_sign_rows) ["size"] fd_sign_rows
  d_alternating_matrices : FD K mg "alternating_matrices" (defArgs s_alternating_matrices) (defBody s_alternating_matrices) (defScope s_alternating_matrices) ["n"] fd_alternating_matrices
  d_law : FD K mg "law" (defArgs s_law) (defBody s_law) (defScope s_law) ["script"] fd_law
  n_abs : mg "abs" = none
  n_bool : mg "bool" = none
  n_int : mg "int" = none
  n_isinstance : mg "isinstance" = none
  n_len : mg "len" = none
  n_list : mg "list" = none
  n_max : mg "max" = none
  n_min : mg "min" = none
  n_range : mg "range" = none
  n_sorted : mg "sorted" = none
  n_str : mg "str" = none
  n_sum : mg "sum" = none
  n_tuple : mg "tuple" = none
  n_zip : mg "zip" = none
  g_MOST_SIZE : ∃ t, mg "MOST_SIZE" = some (.int 5 t)
  x_TooMany : ExC K "TooMany"
  e_TooMany : ExB K "TableError"
  m_TooMany : mg "TooMany" = some (.ref (He.ga K "TooMany"))
  i_TooMany : FunD K "__init__" "TooMany.__init__" (defArgs s_TooMany) (defBody s_TooMany) (defScope s_TooMany) [] [] (He.ma K (He.ga K "TooMany") "__init__") fi_TooMany
  b_TooMany : Binds K fi_TooMany ["self", "what"] []
  m_TableError : mg "TableError" = some (.ref (He.ga K "TableError"))
  q_TooMany_TooMany : PySem.W.exmOne K (.ref (He.ga K "TooMany")) (.ref (He.ga K "TooMany")) = some true
def cs_TooMany : List (Str × Bool) := [("TooMany", true)]
section
variable {w : World} {K : PySem.W.Frag} {mg : Str → Option Value} {base : Heap} {fd__law_deck fd__law_take fd__law_good fd__law_rows fd__law_alternates fd__law_matrices fd_ratio fd_factorial fd_count_alternating fd_count_refined fd_rows_above fd_count_alternating_by_triangles fd__law_plain fd__law_power fd_sign_rows fd_alternating_matrices fd_law fi_TooMany : FuncData}
theorem hcs_TooMany (T : Fx K mg fd__law_deck fd__law_take fd__law_good fd__law_rows fd__law_alternates fd__law_matrices fd_ratio fd_factorial fd_count_alternating fd_count_refined fd_rows_above fd_count_alternating_by_triangles fd__law_plain fd__law_power fd_sign_rows fd_alternating_matrices fd_law fi_TooMany) : ∀ p ∈ cs_TooMany, PySem.W.exmOne K (.ref (He.ga K p.1)) (.ref (He.ga K "TooMany")) = some p.2 := by
  intro p hp
  simp only [cs_TooMany, List.mem_cons, List.not_mem_nil, or_false] at hp
  rcases hp with rfl
  · exact T.q_TooMany_TooMany
theorem tx_TooMany (T : Fx K mg fd__law_deck fd__law_take fd__law_good fd__law_rows fd__law_alternates fd__law_matrices fd_ratio fd_factorial fd_count_alternating fd_count_refined fd_rows_above fd_count_alternating_by_triangles fd__law_plain fd__law_power fd_sign_rows fd_alternating_matrices fd_law fi_TooMany) {xn : Str} (h : cs_TooMany.lookup xn = some true) : ExC K xn := by
  have m := hcs_TooMany T (xn, true) (PySem.mem_of_lookup h)
  have m2 := PySem.mem_of_lookup h
  simp only [cs_TooMany, List.mem_cons, List.not_mem_nil, or_false, Prod.mk.injEq, and_true, Bool.true_eq_false, and_false, false_or, or_false] at m2
  subst m2
  exact T.x_TooMany
theorem oi_TooMany (T : Fx K mg fd__law_deck fd__law_take fd__law_good fd__law_rows fd__law_alternates fd__law_matrices fd_ratio fd_factorial fd_count_alternating fd_count_refined fd_rows_above fd_count_alternating_by_triangles fd__law_plain fd__law_power fd_sign_rows fd_alternating_matrices fd_law fi_TooMany) : FnOk pw w K mg base (L2.CX pw w) 1 (He.ma K (He.ga K "TooMany") "__init__") fi_TooMany ["self", "what"] (spI (He.ga K "TooMany")) :=
  ok_init (t := "too many ") T.i_TooMany sc_TooMany T.x_TooMany (by decide) fun cdv A outer s H E =>
    pss_cons (ps_expr (pe_vinit (x := "TableError") rfl T.m_TableError T.e_TooMany (by exact (pa_cons (pv 0) (pa_cons (pe_op op_add_str pe_str (pv 1)) pa_nil))))) (pss_one (ps_ost (pv 0) (pv 1)))
/-! _law_deck: 0 script 1 cells 2 each 3 deck 4 seed 5 k 6 cell 7 rest 8 at -/
theorem ok__law_deck (T : Fx K mg fd__law_deck fd__law_take fd__law_good fd__law_rows fd__law_alternates fd__law_matrices fd_ratio fd_factorial fd_count_alternating fd_count_refined fd_rows_above fd_count_alternating_by_triangles fd__law_plain fd__law_power fd_sign_rows fd_alternating_matrices fd_law fi_TooMany) : FnOk pw w K mg base (L2.CX pw w) 1 (He.ga K "_law_deck") fd__law_deck ["script", "cells", "each"] (spG K 3 m_deck) :=
  fn_gen T.d__law_deck.F sc__law_deck (b := b_deck) (fun cdv A outer s H E hr => (dss_cons (ds_set 3 sc__law_deck.nd (de_lst true da_nil)) (dss_cons (ds_set 4 sc__law_deck.nd (de_bin opr_add (opd_add false) de_int (de_cb clr_len cld_len rfl T.n_len (by decide +kernel) (da_cons (de_var 0) da_nil)))) (dss_cons (ds_for (passes_of rfl) rfl (di_range1 rfl T.n_range (da_cons (de_var 1) da_nil)) (dg_name 5 sc__law_deck.nd) (dss_cons (ds_set 6 sc__law_deck.nd de_int) (dss_cons (ds_if (dt_cmp op_lt (opd_ord _) (nomark _) (de_var 5) (de_cb clr_len cld_len rfl T.n_len (by decide +kernel) (da_cons (de_var 0) da_nil))) (dss_one (ds_set 6 sc__law_deck.nd (de_ix (de_var 0) (de_var 5)))) dss_nil) (dss_cons (ds_set 7 sc__law_deck.nd (de_cb call_abs cld_abs rfl T.n_abs (by decide +kernel) (da_cons (de_var 6) da_nil))) (dss_one (ds_if (dt_cmp op_ge (opd_ord _) (nomark _) (de_var 7) (de_bin op_pow opd_pow de_int de_int)) (dss_one (ds_for (passes_of rfl) rfl (di_range1 rfl T.n_range (da_cons (de_var 2) da_nil)) (dg_name 8 sc__law_deck.nd) (dss_cons (ds_expr (de_lm PySem.F.slot_list_append PySem.F.type_list_append mt_append mtd_append (de_var 3) (da_cons (de_bin op_modN opd_mod (de_ct call_int1 cld_int1 rfl T.n_int (by decide +kernel) (da_cons (de_var 7) da_nil)) de_int) da_nil))) (dss_one (ds_set 7 sc__law_deck.nd (de_bin op_fdivN opd_fdiv (de_var 7) de_int)))))) (dss_cons (ds_set 4 sc__law_deck.nd (de_bin op_modN opd_mod (de_ct call_int1 cld_int1 rfl T.n_int (by decide +kernel) (da_cons (de_bin opr_add (opd_add false) (de_bin opr_add (opd_add false) (de_bin opr_add (opd_add false) (de_bin opr_mul (opd_mul false) (de_var 4) de_int) (de_bin opr_mul (opd_mul false) de_int (de_var 7))) (de_ct call_int1 cld_int1 rfl T.n_int (by decide +kernel) (da_cons (de_cmp op_lt (opd_ord _) (nomark _) (de_var 6) de_int) da_nil))) (de_var 5)) da_nil)) de_int)) (dss_one (ds_for (passes_of rfl) rfl (di_range1 rfl T.n_range (da_cons (de_var 2) da_nil)) (dg_name 8 sc__law_deck.nd) (dss_cons (ds_set 4 sc__law_deck.nd (de_bin op_modN opd_mod (de_ct call_int1 cld_int1 rfl T.n_int (by decide +kernel) (da_cons (de_bin opr_add (opd_add false) (de_bin opr_add (opd_add false) (de_bin opr_mul (opd_mul false) (de_var 4) de_int) (de_var 8)) de_int) da_nil)) de_int)) (dss_one (ds_expr (de_lm PySem.F.slot_list_append PySem.F.type_list_append mt_append mtd_append (de_var 3) (da_cons (de_bin op_modN opd_mod (de_ct call_int1 cld_int1 rfl T.n_int (by decide +kernel) (da_cons (de_bin op_fdivN opd_fdiv (de_var 4) de_int) da_nil)) de_int) da_nil)))))))))))))) (dss_cons (ds_expr (de_lm0 PySem.F.slot_list_reverse PySem.F.type_list_reverse mt_reverse mtd_reverse (de_var 3))) (dss_one (ds_ret (de_var 3))))))))
/-! _law_take: 0 deck 1 many -/
theorem ok__law_take (T : Fx K mg fd__law_deck fd__law_take fd__law_good fd__law_rows fd__law_alternates fd__law_matrices fd_ratio fd_factorial fd_count_alternating fd_count_refined fd_rows_above fd_count_alternating_by_triangles fd__law_plain fd__law_power fd_sign_rows fd_alternating_matrices fd_law fi_TooMany) : FnOk pw w K mg base (L2.CX pw w) 1 (He.ga K "_law_take") fd__law_take ["deck", "many"] (spG K 2 m_take) :=
  fn_cut T.d__law_take.F sc__law_take (b := b_take) (fun cdv A outer s H E hr => (dss_cons (ds_if (dt_cmp (op_eqD hr.units) opd_eq (nomark _) (de_cb clr_len cld_len rfl T.n_len (by decide +kernel) (da_cons (de_var 0) da_nil)) de_int) (dss_one (ds_ret de_int)) dss_nil) (dss_one (ds_ret (de_bin op_modN opd_mod (de_ct call_int1 cld_int1 rfl T.n_int (by decide +kernel) (da_cons (de_lm0 PySem.F.slot_list_pop PySem.F.type_list_pop mt_pop mtd_pop (de_var 0)) da_nil)) (de_var 1))))))
/-! _law_good: 0 row 1 signs 2 number 3 at -/
def b__law_good : FS := sSeq (sAsg (fComp false [2] (fSeq (fVar 0)) (CT.nm 2) (fTest (fBin (fVar 2) (fC (.int 0)) (g2 neF))) (fVar 2)) (gNm 1)) (sSeq (sIf (fOr (fTest (fBin (fCall (gc1 lenF) (fCons (fComp false [2] (fSeq (fVar 0)) (CT.nm 2) (fTest (fBin (fVar 2) (fTup (fCons (fUn (fC (.int 1)) (g1 negF)) (fCons (fC (.int 0)) (fCons (fC (.int 1)) (fNil))))) (g2 (inF true)))) (fVar 2)) (fNil))) (fC (.int 0)) (g2 gtF))) (fTest (fBin (fBin (fCall (gc1 lenF) (fCons (fVar 1) (fNil))) (fC (.int 2)) (g2 modF)) (fC (.int 0)) (g2 eqF)))) (sRet (fC (.bl false))) (sSkip)) (sRet (fBin (fVar 1) (fComp false [3] (fRng1 (fCons (fCall (gc1 lenF) (fCons (fVar 1) (fNil))) (fNil))) (CT.nm 3) (fYes) (fBin (fC (.int 1)) (fBin (fC (.int 2)) (fBin (fVar 3) (fC (.int 2)) (g2 modF)) (g2 (mulF false))) (g2 subF))) (g2 eqF))))
def m__law_good : List Sl → Store → Out Sl := lift (pureOf 4 b__law_good)
theorem ok__law_good (T : Fx K mg fd__law_deck fd__law_take fd__law_good fd__law_rows fd__law_alternates fd__law_matrices fd_ratio fd_factorial fd_count_alternating fd_count_refined fd_rows_above fd_count_alternating_by_triangles fd__law_plain fd__law_power fd_sign_rows fd_alternating_matrices fd_law fi_TooMany) : FnOk pw w K mg base (L2.CX pw w) 1 (He.ga K "_law_good") fd__law_good ["row"] (spG K 1 m__law_good) :=
  fn_pure T.d__law_good.F sc__law_good (b := b__law_good) (fun cdv A outer s H E hr => (dss_cons (ds_setLc false 1 (own := [("number", 2)]) rfl sc__law_good.nd rfl (di_seq (de_var 0)) (blkOk_by (by kernel_rfl)) (fun _ _ _ _ _ => (pct_nm 2 sc__law_good.nd rfl (by first | exact Or.inl rfl | exact Or.inr rfl) (by first | exact .inl rfl | exact .inr rfl))) (fun _ _ _ _ _ => (dts_one (dt_cmp (op_neD hr.units) opd_ne (nomark _) (de_var 2) de_int))) (fun _ _ _ _ _ => (de_var 2))) (dss_cons (ds_if (dt_w (dw_or (dt_cmp op_gt (opd_ord _) (nomark _) (de_cb clr_len cld_len rfl T.n_len (by decide +kernel) (da_cons (de_lc false (own := [("number", 2)]) rfl sc__law_good.nd (di_seq (de_var 0)) (blkOk_by (by kernel_rfl)) (fun _ _ _ _ _ => (pct_nm 2 sc__law_good.nd rfl (by first | exact Or.inl rfl | exact Or.inr rfl) (by first | exact .inl rfl | exact .inr rfl))) (fun _ _ _ _ _ => (dts_one (dt_in true (hu65 hr) rfl (de_var 2) (de_tup (da_cons (de_un un_neg und_neg de_int) (da_cons de_int (da_cons de_int da_nil))))))) (fun _ _ _ _ _ => (de_var 2))) da_nil)) de_int) (dw_or1 (dt_cmp (op_eqD hr.units) opd_eq (nomark _) (de_bin op_modN opd_mod (de_cb clr_len cld_len rfl T.n_len (by decide +kernel) (da_cons (de_var 1) da_nil)) de_int) de_int)))) (dss_one (ds_ret de_bl)) dss_nil) (dss_one (ds_ret (de_cmp (op_eqD hr.units) opd_eq (nomark _) (de_var 1) (de_lc false (own := [("at", 3)]) rfl sc__law_good.nd (di_range1 rfl T.n_range (da_cons (de_cb clr_len cld_len rfl T.n_len (by decide +kernel) (da_cons (de_var 1) da_nil)) da_nil)) (blkOk_by (by kernel_rfl)) (fun _ _ _ _ _ => (pct_nm 3 sc__law_good.nd rfl (by first | exact Or.inl rfl | exact Or.inr rfl) (by first | exact .inl rfl | exact .inr rfl))) (fun _ _ _ _ _ => dts_nil) (fun _ _ _ _ _ => (de_bin op_sub opd_sub de_int (de_bin opr_mul (opd_mul false) de_int (de_bin op_modN opd_mod (de_var 3) de_int)))))))))))
/-! _law_rows: 0 size 1 found 2 turn 3 longer 4 row 5 number -/
def b__law_rows_1 : FS := sDrop (fMeth isLst (fVar 3) (fCons (fComp false [5] (fSeq (fTup (fCons (fUn (fC (.int 1)) (g1 negF)) (fCons (fC (.int 0)) (fCons (fC (.int 1)) (fNil)))))) (CT.nm 5) (fYes) (fBin (fVar 4) (fTup (fCons (fVar 5) (fNil))) (g2 (addF false)))) (fNil)) extendG)
def b__law_rows_2 : FS := sSeq (sAsg (fLst true (fNil)) (gNm 3)) (sSeq (sFor (fSeq (fVar 1)) (gNm 4) (b__law_rows_1)) (sGhost (tFreeze 3) (sAsg (fVar 3) (gNm 1))))
def b__law_rows : FS := sSeq (sAsg (fLst false (fCons (fTup (fNil)) (fNil))) (gNm 1)) (sSeq (sFor (fRng1 (fCons (fVar 0) (fNil))) (gNm 2) (b__law_rows_2)) (sRet (fComp false [4] (fSeq (fVar 1)) (CT.nm 4) (fTru (fCall (m__law_good) (fCons (fVar 4) (fNil)))) (fVar 4))))
def m__law_rows : List Sl → Store → Out Sl := lift (pureOf 6 b__law_rows)
theorem ok__law_rows (T : Fx K mg fd__law_deck fd__law_take fd__law_good fd__law_rows fd__law_alternates fd__law_matrices fd_ratio fd_factorial fd_count_alternating fd_count_refined fd_rows_above fd_count_alternating_by_triangles fd__law_plain fd__law_power fd_sign_rows fd_alternating_matrices fd_law fi_TooMany) : FnOk pw w K mg base (L2.CX pw w) 2 (He.ga K "_law_rows") fd__law_rows ["size"] (spG K 1 m__law_rows) :=
  fn_pure T.d__law_rows.F sc__law_rows (b := b__law_rows) (fun cdv A outer s H E hr => (dss_cons (ds_set 1 sc__law_rows.nd (de_lst false (da_cons (de_tup da_nil) da_nil))) (dss_cons (ds_for (passes_of rfl) rfl (di_range1 rfl T.n_range (da_cons (de_var 0) da_nil)) (dg_name 2 sc__law_rows.nd) (dss_cons (ds_set 3 sc__law_rows.nd (de_lst true da_nil)) (dss_cons (ds_for (passes_of rfl) rfl (di_seq (de_var 1)) (dg_name 4 sc__law_rows.nd) (dss_one (ds_expr (de_lm PySem.F.slot_list_extend PySem.F.type_list_extend mt_extend mtd_extend (de_var 3) (da_cons (de_lc false (own := [("number", 5)]) rfl sc__law_rows.nd (di_seq (de_tup (da_cons (de_un un_neg und_neg de_int) (da_cons de_int (da_cons de_int da_nil))))) (blkOk_by (by kernel_rfl)) (fun _ _ _ _ _ => (pct_nm 5 sc__law_rows.nd rfl (by first | exact Or.inl rfl | exact Or.inr rfl) (by first | exact .inl rfl | exact .inr rfl))) (fun _ _ _ _ _ => dts_nil) (fun _ _ _ _ _ => (de_bin opr_add (opd_add false) (de_var 4) (de_tup (da_cons (de_var 5) da_nil))))) da_nil))))) (dss_ghost (ghost_freeze 3) (dss_one (ds_set 1 sc__law_rows.nd (de_var 3))))))) (dss_one (ds_ret (de_lc false (own := [("row", 4)]) rfl sc__law_rows.nd (di_seq (de_var 1)) (blkOk_by (by kernel_rfl)) (fun _ _ _ _ _ => (pct_nm 4 sc__law_rows.nd rfl (by first | exact Or.inl rfl | exact Or.inr rfl) (by first | exact .inl rfl | exact .inr rfl))) (fun _ _ _ _ _ => (dts_one (dt_tru (de_call (ok__law_good T) (hr.mono (by decide)) rfl T.d__law_good.m T.d__law_good.F.kp T.d__law_good.b takes0 (da_cons (de_var 4) da_nil))))) (fun _ _ _ _ _ => (de_var 4))))))))
/-! _law_alternates: 0 rows 1 at 2 row -/
def b__law_alternates_1 : FS := sIf (fOr (fNot (fTru (fCall (m__law_good) (fCons (fBin (fVar 0) (fVar 1) (g2 ixF)) (fNil))))) (fNot (fTru (fCall (m__law_good) (fCons (fComp false [2] (fSeq (fVar 0)) (CT.nm 2) (fYes) (fBin (fVar 2) (fVar 1) (g2 ixF))) (fNil)))))) (sRet (fC (.bl false))) (sSkip)
def b__law_alternates : FS := sSeq (sIf (fTest (fBin (fCall (gc1 lenF) (fCons (fComp false [2] (fSeq (fVar 0)) (CT.nm 2) (fTest (fBin (fCall (gc1 lenF) (fCons (fVar 2) (fNil))) (fCall (gc1 lenF) (fCons (fVar 0) (fNil))) (g2 neF))) (fVar 2)) (fNil))) (fC (.int 0)) (g2 gtF))) (sRet (fC (.bl false))) (sSkip)) (sSeq (sFor (fRng1 (fCons (fCall (gc1 lenF) (fCons (fVar 0) (fNil))) (fNil))) (gNm 1) (b__law_alternates_1)) (sRet (fC (.bl true))))
def m__law_alternates : List Sl → Store → Out Sl := lift (pureOf 3 b__law_alternates)
theorem ok__law_alternates (T : Fx K mg fd__law_deck fd__law_take fd__law_good fd__law_rows fd__law_alternates fd__law_matrices fd_ratio fd_factorial fd_count_alternating fd_count_refined fd_rows_above fd_count_alternating_by_triangles fd__law_plain fd__law_power fd_sign_rows fd_alternating_matrices fd_law fi_TooMany) : FnOk pw w K mg base (L2.CX pw w) 2 (He.ga K "_law_alternates") fd__law_alternates ["rows"] (spG K 1 m__law_alternates) :=
  fn_pure T.d__law_alternates.F sc__law_alternates (b := b__law_alternates) (fun cdv A outer s H E hr => (dss_cons (ds_if (dt_cmp op_gt (opd_ord _) (nomark _) (de_cb clr_len cld_len rfl T.n_len (by decide +kernel) (da_cons (de_lc false (own := [("row", 2)]) rfl sc__law_alternates.nd (di_seq (de_var 0)) (blkOk_by (by kernel_rfl)) (fun _ _ _ _ _ => (pct_nm 2 sc__law_alternates.nd rfl (by first | exact Or.inl rfl | exact Or.inr rfl) (by first | exact .inl rfl | exact .inr rfl))) (fun _ _ _ _ _ => (dts_one (dt_cmp (op_neD hr.units) opd_ne (nomark _) (de_cb clr_len cld_len rfl T.n_len (by decide +kernel) (da_cons (de_var 2) da_nil)) (de_cb clr_len cld_len rfl T.n_len (by decide +kernel) (da_cons (de_var 0) da_nil))))) (fun _ _ _ _ _ => (de_var 2))) da_nil)) de_int) (dss_one (ds_ret de_bl)) dss_nil) (dss_cons (ds_for (passes_of rfl) rfl (di_range1 rfl T.n_range (da_cons (de_cb clr_len cld_len rfl T.n_len (by decide +kernel) (da_cons (de_var 0) da_nil)) da_nil)) (dg_name 1 sc__law_alternates.nd) (dss_one (ds_if (dt_w (dw_or (dt_not (dt_tru (de_call (ok__law_good T) (hr.mono (by decide)) rfl T.d__law_good.m T.d__law_good.F.kp T.d__law_good.b (takes_of rfl rfl rfl rfl) (da_cons (de_ix (de_var 0) (de_var 1)) da_nil)))) (dw_or1 (dt_not (dt_tru (de_call (ok__law_good T) (hr.mono (by decide)) rfl T.d__law_good.m T.d__law_good.F.kp T.d__law_good.b (takes_of rfl rfl rfl rfl) (da_cons (de_lc false (own := [("row", 2)]) rfl sc__law_alternates.nd (di_seq (de_var 0)) (blkOk_by (by kernel_rfl)) (fun _ _ _ _ _ => (pct_nm 2 sc__law_alternates.nd rfl (by first | exact Or.inl rfl | exact Or.inr rfl) (by first | exact .inl rfl | exact .inr rfl))) (fun _ _ _ _ _ => dts_nil) (fun _ _ _ _ _ => (de_ix (de_var 2) (de_var 1)))) da_nil))))))) (dss_one (ds_ret de_bl)) dss_nil))) (dss_one (ds_ret de_bl)))))
/-! _law_matrices: 0 size 1 found 2 turn 3 longer 4 rows 5 row 6 sums 7 at 8 number 9 line -/
def b__law_matrices_1 : FS := sSeq (sAsg (fComp false [7] (fRng1 (fCons (fVar 0) (fNil))) (CT.nm 7) (fYes) (fBin (fCall (gc1 sumA) (fCons (fComp false [9] (fSeq (fVar 4)) (CT.nm 9) (fYes) (fBin (fVar 9) (fVar 7) (g2 ixF))) (fNil))) (fBin (fVar 5) (fVar 7) (g2 ixF)) (g2 (addF false)))) (gNm 6)) (sIf (fTest (fBin (fCall (gc1 lenF) (fCons (fComp false [8] (fSeq (fVar 6)) (CT.nm 8) (fTest (fBin (fVar 8) (fTup (fCons (fC (.int 0)) (fCons (fC (.int 1)) (fNil)))) (g2 (inF true)))) (fVar 8)) (fNil))) (fC (.int 0)) (g2 eqF))) (sDrop (fMeth isLst (fVar 3) (fCons (fBin (fVar 4) (fTup (fCons (fVar 5) (fNil))) (g2 (addF false))) (fNil)) appendG)) (sSkip))
def b__law_matrices_2 : FS := sFor (fSeq (fCall (m__law_rows) (fCons (fVar 0) (fNil)))) (gNm 5) (b__law_matrices_1)
def b__law_matrices_3 : FS := sSeq (sAsg (fLst true (fNil)) (gNm 3)) (sSeq (sFor (fSeq (fVar 1)) (gNm 4) (b__law_matrices_2)) (sGhost (tFreeze 3) (sAsg (fVar 3) (gNm 1))))
def b__law_matrices : FS := sSeq (sAsg (fLst false (fCons (fTup (fNil)) (fNil))) (gNm 1)) (sSeq (sFor (fRng1 (fCons (fVar 0) (fNil))) (gNm 2) (b__law_matrices_3)) (sRet (fCall (gc1 (sortF3 false false)) (fCons (fComp false [4] (fSeq (fVar 1)) (CT.nm 4) (fTru (fCall (m__law_alternates) (fCons (fVar 4) (fNil)))) (fVar 4)) (fNil)))))
def m__law_matrices : List Sl → Store → Out Sl := lift (pureOf 10 b__law_matrices)
theorem ok__law_matrices (T : Fx K mg fd__law_deck fd__law_take fd__law_good fd__law_rows fd__law_alternates fd__law_matrices fd_ratio fd_factorial fd_count_alternating fd_count_refined fd_rows_above fd_count_alternating_by_triangles fd__law_plain fd__law_power fd_sign_rows fd_alternating_matrices fd_law fi_TooMany) : FnOk pw w K mg base (L2.CX pw w) 3 (He.ga K "_law_matrices") fd__law_matrices ["size"] (spG K 1 m__law_matrices) :=
  fn_pure T.d__law_matrices.F sc__law_matrices (b := b__law_matrices) (fun cdv A outer s H E hr => (dss_cons (ds_set 1 sc__law_matrices.nd (de_lst false (da_cons (de_tup da_nil) da_nil))) (dss_cons (ds_for (passes_of rfl) rfl (di_range1 rfl T.n_range (da_cons (de_var 0) da_nil)) (dg_name 2 sc__law_matrices.nd) (dss_cons (ds_set 3 sc__law_matrices.nd (de_lst true da_nil)) (dss_cons (ds_for (passes_of rfl) rfl (di_seq (de_var 1)) (dg_name 4 sc__law_matrices.nd) (dss_one (ds_for (passes_of rfl) rfl (di_seq (de_call (ok__law_rows T) (hr.mono (by decide)) rfl T.d__law_rows.m T.d__law_rows.F.kp T.d__law_rows.b (takes_of rfl rfl rfl rfl) (da_cons (de_var 0) da_nil))) (dg_name 5 sc__law_matrices.nd) (dss_cons (ds_setLc false 6 (own := [("at", 7)]) rfl sc__law_matrices.nd rfl (di_range1 rfl T.n_range (da_cons (de_var 0) da_nil)) (blkOk_by (by kernel_rfl)) (fun _ _ _ _ _ => (pct_nm 7 sc__law_matrices.nd rfl (by first | exact Or.inl rfl | exact Or.inr rfl) (by first | exact .inl rfl | exact .inr rfl))) (fun _ _ _ _ _ => dts_nil) (fun _ _ _ _ _ => (de_bin opr_add (opd_add false) (de_cb (cr_sumA rfl) cld_sumA rfl T.n_sum (by decide +kernel) (da_cons (de_lc false (own := [("line", 9)]) rfl sc__law_matrices.nd (di_seq (de_var 4)) (blkOk_by (by kernel_rfl)) (fun _ _ _ _ _ => (pct_nm 9 sc__law_matrices.nd rfl (by first | exact Or.inl rfl | exact Or.inr rfl) (by first | exact .inl rfl | exact .inr rfl))) (fun _ _ _ _ _ => dts_nil) (fun _ _ _ _ _ => (de_ix (de_var 9) (de_var 7)))) da_nil)) (de_ix (de_var 5) (de_var 7))))) (dss_one (ds_if (dt_cmp (op_eqD hr.units) opd_eq (nomark _) (de_cb clr_len cld_len rfl T.n_len (by decide +kernel) (da_cons (de_lc false (own := [("number", 8)]) rfl sc__law_matrices.nd (di_seq (de_var 6)) (blkOk_by (by kernel_rfl)) (fun _ _ _ _ _ => (pct_nm 8 sc__law_matrices.nd rfl (by first | exact Or.inl rfl | exact Or.inr rfl) (by first | exact .inl rfl | exact .inr rfl))) (fun _ _ _ _ _ => (dts_one (dt_in true (hu65 hr) rfl (de_var 8) (de_tup (da_cons de_int (da_cons de_int da_nil)))))) (fun _ _ _ _ _ => (de_var 8))) da_nil)) de_int) (dss_one (ds_expr (de_lm PySem.F.slot_list_append PySem.F.type_list_append mt_append mtd_append (de_var 3) (da_cons (de_bin opr_add (opd_add false) (de_var 4) (de_tup (da_cons (de_var 5) da_nil))) da_nil)))) dss_nil)))))) (dss_ghost (ghost_freeze 3) (dss_one (ds_set 1 sc__law_matrices.nd (de_var 3))))))) (dss_one (ds_ret (de_cb (cr_sort3 rfl (hu70 hr)) (cld_sort3 false false) rfl T.n_sorted (by decide +kernel) (da_cons (de_lc false (own := [("rows", 4)]) rfl sc__law_matrices.nd (di_seq (de_var 1)) (blkOk_by (by kernel_rfl)) (fun _ _ _ _ _ => (pct_nm 4 sc__law_matrices.nd rfl (by first | exact Or.inl rfl | exact Or.inr rfl) (by first | exact .inl rfl | exact .inr rfl))) (fun _ _ _ _ _ => (dts_one (dt_tru (de_call (ok__law_alternates T) (hr.mono (by decide)) rfl T.d__law_alternates.m T.d__law_alternates.F.kp T.d__law_alternates.b takes0 (da_cons (de_var 4) da_nil))))) (fun _ _ _ _ _ => (de_var 4))) da_nil)))))))
/-! ratio: 0 above 1 below 2 found 3 number -/
def b_ratio_1 : FS := sAug 2 (fVar 3) (g2 ifdivW)
def b_ratio_2 : FS := sAug 2 (fVar 3) (g2 imulW)
def b_ratio : FS := sSeq (sAsg (fC (.int 1)) (gNm 2)) (sSeq (sFor (fSeq (fVar 0)) (gNm 3) (b_ratio_2)) (sSeq (sFor (fSeq (fVar 1)) (gNm 3) (b_ratio_1)) (sRet (fVar 2))))
def m_ratio : List Sl → Store → Out Sl := lift (pureOf 4 b_ratio)
theorem ok_ratio (T : Fx K mg fd__law_deck fd__law_take fd__law_good fd__law_rows fd__law_alternates fd__law_matrices fd_ratio fd_factorial fd_count_alternating fd_count_refined fd_rows_above fd_count_alternating_by_triangles fd__law_plain fd__law_power fd_sign_rows fd_alternating_matrices fd_law fi_TooMany) : FnOk pw w K mg base (L2.CX pw w) 1 (He.ga K "ratio") fd_ratio ["above", "below"] (spG K 2 m_ratio) :=
  fn_pure T.d_ratio.F sc_ratio (b := b_ratio) (fun cdv A outer s H E hr => (dss_cons (ds_set 2 sc_ratio.nd de_int) (dss_cons (ds_for (passes_of rfl) rfl (di_seq (de_var 0)) (dg_name 3 sc_ratio.nd) (dss_one (ds_aug 2 sc_ratio.nd (pip_of iop_mulW) opd_imulW (de_var 3)))) (dss_cons (ds_for (passes_of rfl) rfl (di_seq (de_var 1)) (dg_name 3 sc_ratio.nd) (dss_one (ds_aug 2 sc_ratio.nd (pip_of iop_fdivW) opd_ifdivW (de_var 3)))) (dss_one (ds_ret (de_var 2)))))))
/-! factorial: 0 number 1 found 2 factor -/
def b_factorial_1 : FS := sAug 1 (fVar 2) (g2 imulW)
def b_factorial : FS := sSeq (sAsg (fC (.int 1)) (gNm 1)) (sSeq (sFor (fRng2 (fCons (fC (.int 2)) (fCons (fBin (fVar 0) (fC (.int 1)) (g2 (addF false))) (fNil)))) (gNm 2) (b_factorial_1)) (sRet (fVar 1)))
def m_factorial : List Sl → Store → Out Sl := lift (pureOf 3 b_factorial)
theorem ok_factorial (T : Fx K mg fd__law_deck fd__law_take fd__law_good fd__law_rows fd__law_alternates fd__law_matrices fd_ratio fd_factorial fd_count_alternating fd_count_refined fd_rows_above fd_count_alternating_by_triangles fd__law_plain fd__law_power fd_sign_rows fd_alternating_matrices fd_law fi_TooMany) : FnOk pw w K mg base (L2.CX pw w) 1 (He.ga K "factorial") fd_factorial ["number"] (spG K 1 m_factorial) :=
  fn_pure T.d_factorial.F sc_factorial (b := b_factorial) (fun cdv A outer s H E hr => (dss_cons (ds_set 1 sc_factorial.nd de_int) (dss_cons (ds_for (passes_of rfl) rfl (di_range2 rfl T.n_range (da_cons de_int (da_cons (de_bin opr_add (opd_add false) (de_var 0) de_int) da_nil))) (dg_name 2 sc_factorial.nd) (dss_one (ds_aug 1 sc_factorial.nd (pip_of iop_mulW) opd_imulW (de_var 2)))) (dss_one (ds_ret (de_var 1))))))
/-! count_alternating: 0 n 1 above 2 at -/
def b_count_alternating : FS := sSeq (sAsg (fComp false [2] (fRng1 (fCons (fVar 0) (fNil))) (CT.nm 2) (fYes) (fCall (m_factorial) (fCons (fBin (fBin (fC (.int 3)) (fVar 2) (g2 (mulF false))) (fC (.int 1)) (g2 (addF false))) (fNil)))) (gNm 1)) (sRet (fCall (m_ratio) (fCons (fVar 1) (fCons (fComp false [2] (fRng1 (fCons (fVar 0) (fNil))) (CT.nm 2) (fYes) (fCall (m_factorial) (fCons (fBin (fVar 0) (fVar 2) (g2 (addF false))) (fNil)))) (fNil)))))
def m_count_alternating : List Sl → Store → Out Sl := lift (pureOf 3 b_count_alternating)
theorem ok_count_alternating (T : Fx K mg fd__law_deck fd__law_take fd__law_good fd__law_rows fd__law_alternates fd__law_matrices fd_ratio fd_factorial fd_count_alternating fd_count_refined fd_rows_above fd_count_alternating_by_triangles fd__law_plain fd__law_power fd_sign_rows fd_alternating_matrices fd_law fi_TooMany) : FnOk pw w K mg base (L2.CX pw w) 2 (He.ga K "count_alternating") fd_count_alternating ["n"] (spG K 1 m_count_alternating) :=
  fn_pure T.d_count_alternating.F sc_count_alternating (b := b_count_alternating) (fun cdv A outer s H E hr => (dss_cons (ds_setLc false 1 (own := [("at", 2)]) rfl sc_count_alternating.nd rfl (di_range1 rfl T.n_range (da_cons (de_var 0) da_nil)) (blkOk_by (by kernel_rfl)) (fun _ _ _ _ _ => (pct_nm 2 sc_count_alternating.nd rfl (by first | exact Or.inl rfl | exact Or.inr rfl) (by first | exact .inl rfl | exact .inr rfl))) (fun _ _ _ _ _ => dts_nil) (fun _ _ _ _ _ => (de_call (ok_factorial T) (hr.mono (by decide)) rfl T.d_factorial.m T.d_factorial.F.kp T.d_factorial.b takes0 (da_cons (de_bin opr_add (opd_add false) (de_bin opr_mul (opd_mul false) de_int (de_var 2)) de_int) da_nil)))) (dss_one (ds_ret (de_call (ok_ratio T) (hr.mono (by decide)) rfl T.d_ratio.m T.d_ratio.F.kp T.d_ratio.b (takes_of rfl rfl rfl rfl) (da_cons (de_var 1) (da_cons (de_lc false (own := [("at", 2)]) rfl sc_count_alternating.nd (di_range1 rfl T.n_range (da_cons (de_var 0) da_nil)) (blkOk_by (by kernel_rfl)) (fun _ _ _ _ _ => (pct_nm 2 sc_count_alternating.nd rfl (by first | exact Or.inl rfl | exact Or.inr rfl) (by first | exact .inl rfl | exact .inr rfl))) (fun _ _ _ _ _ => dts_nil) (fun _ _ _ _ _ => (de_call (ok_factorial T) (hr.mono (by decide)) rfl T.d_factorial.m T.d_factorial.F.kp T.d_factorial.b takes0 (da_cons (de_bin opr_add (opd_add false) (de_var 0) (de_var 2)) da_nil)))) da_nil)))))))
/-! count_refined: 0 n 1 found 2 place 3 ways 4 above -/
def b_count_refined_1 : FS := sSeq (sAsg (fCall (m_ratio) (fCons (fLst false (fCons (fCall (m_factorial) (fCons (fBin (fBin (fVar 0) (fVar 2) (g2 (addF false))) (fC (.int 2)) (g2 subF)) (fNil))) (fNil))) (fCons (fLst false (fCons (fCall (m_factorial) (fCons (fBin (fVar 2) (fC (.int 1)) (g2 subF)) (fNil))) (fCons (fCall (m_factorial) (fCons (fBin (fVar 0) (fC (.int 1)) (g2 subF)) (fNil))) (fNil)))) (fNil)))) (gNm 3)) (sSeq (sAsg (fLst false (fCons (fCall (m_count_alternating) (fCons (fBin (fVar 0) (fC (.int 1)) (g2 subF)) (fNil))) (fCons (fVar 3) (fCons (fCall (m_factorial) (fCons (fBin (fBin (fBin (fC (.int 2)) (fVar 0) (g2 (mulF false))) (fVar 2) (g2 subF)) (fC (.int 1)) (g2 subF)) (fNil))) (fCons (fCall (m_factorial) (fCons (fBin (fVar 0) (fC (.int 1)) (g2 subF)) (fNil))) (fNil)))))) (gNm 4)) (sDrop (fMeth isLst (fVar 1) (fCons (fCall (m_ratio) (fCons (fVar 4) (fCons (fLst false (fCons (fCall (m_factorial) (fCons (fBin (fVar 0) (fVar 2) (g2 subF)) (fNil))) (fCons (fCall (m_factorial) (fCons (fBin (fBin (fC (.int 2)) (fVar 0) (g2 (mulF false))) (fC (.int 2)) (g2 subF)) (fNil))) (fNil)))) (fNil)))) (fNil)) appendG)))
def b_count_refined : FS := sSeq (sAsg (fLst true (fNil)) (gNm 1)) (sSeq (sFor (fRng2 (fCons (fC (.int 1)) (fCons (fBin (fVar 0) (fC (.int 1)) (g2 (addF false))) (fNil)))) (gNm 2) (b_count_refined_1)) (sGhost (tFreeze 1) (sRet (fVar 1))))
def m_count_refined : List Sl → Store → Out Sl := lift (pureOf 5 b_count_refined)
theorem ok_count_refined (T : Fx K mg fd__law_deck fd__law_take fd__law_good fd__law_rows fd__law_alternates fd__law_matrices fd_ratio fd_factorial fd_count_alternating fd_count_refined fd_rows_above fd_count_alternating_by_triangles fd__law_plain fd__law_power fd_sign_rows fd_alternating_matrices fd_law fi_TooMany) : FnOk pw w K mg base (L2.CX pw w) 3 (He.ga K "count_refined") fd_count_refined ["n"] (spG K 1 m_count_refined) :=
  fn_pure T.d_count_refined.F sc_count_refined (b := b_count_refined) (fun cdv A outer s H E hr => (dss_cons (ds_set 1 sc_count_refined.nd (de_lst true da_nil)) (dss_cons (ds_for (passes_of rfl) rfl (di_range2 rfl T.n_range (da_cons de_int (da_cons (de_bin opr_add (opd_add false) (de_var 0) de_int) da_nil))) (dg_name 2 sc_count_refined.nd) (dss_cons (ds_set 3 sc_count_refined.nd (de_call (ok_ratio T) (hr.mono (by decide)) rfl T.d_ratio.m T.d_ratio.F.kp T.d_ratio.b (takes_of rfl rfl rfl rfl) (da_cons (de_lst false (da_cons (de_call (ok_factorial T) (hr.mono (by decide)) rfl T.d_factorial.m T.d_factorial.F.kp T.d_factorial.b (takes_of rfl rfl rfl rfl) (da_cons (de_bin op_sub opd_sub (de_bin opr_add (opd_add false) (de_var 0) (de_var 2)) de_int) da_nil)) da_nil)) (da_cons (de_lst false (da_cons (de_call (ok_factorial T) (hr.mono (by decide)) rfl T.d_factorial.m T.d_factorial.F.kp T.d_factorial.b (takes_of rfl rfl rfl rfl) (da_cons (de_bin op_sub opd_sub (de_var 2) de_int) da_nil)) (da_cons (de_call (ok_factorial T) (hr.mono (by decide)) rfl T.d_factorial.m T.d_factorial.F.kp T.d_factorial.b (takes_of rfl rfl rfl rfl) (da_cons (de_bin op_sub opd_sub (de_var 0) de_int) da_nil)) da_nil))) da_nil)))) (dss_cons (ds_set 4 sc_count_refined.nd (de_lst false (da_cons (de_call (ok_count_alternating T) (hr.mono (by decide)) rfl T.d_count_alternating.m T.d_count_alternating.F.kp T.d_count_alternating.b (takes_of rfl rfl rfl rfl) (da_cons (de_bin op_sub opd_sub (de_var 0) de_int) da_nil)) (da_cons (de_var 3) (da_cons (de_call (ok_factorial T) (hr.mono (by decide)) rfl T.d_factorial.m T.d_factorial.F.kp T.d_factorial.b (takes_of rfl rfl rfl rfl) (da_cons (de_bin op_sub opd_sub (de_bin op_sub opd_sub (de_bin opr_mul (opd_mul false) de_int (de_var 0)) (de_var 2)) de_int) da_nil)) (da_cons (de_call (ok_factorial T) (hr.mono (by decide)) rfl T.d_factorial.m T.d_factorial.F.kp T.d_factorial.b (takes_of rfl rfl rfl rfl) (da_cons (de_bin op_sub opd_sub (de_var 0) de_int) da_nil)) da_nil)))))) (dss_one (ds_expr (de_lm PySem.F.slot_list_append PySem.F.type_list_append mt_append mtd_append (de_var 1) (da_cons (de_call (ok_ratio T) (hr.mono (by decide)) rfl T.d_ratio.m T.d_ratio.F.kp T.d_ratio.b (takes_of rfl rfl rfl rfl) (da_cons (de_var 4) (da_cons (de_lst false (da_cons (de_call (ok_factorial T) (hr.mono (by decide)) rfl T.d_factorial.m T.d_factorial.F.kp T.d_factorial.b (takes_of rfl rfl rfl rfl) (da_cons (de_bin op_sub opd_sub (de_var 0) (de_var 2)) da_nil)) (da_cons (de_call (ok_factorial T) (hr.mono (by decide)) rfl T.d_factorial.m T.d_factorial.F.kp T.d_factorial.b (takes_of rfl rfl rfl rfl) (da_cons (de_bin op_sub opd_sub (de_bin opr_mul (opd_mul false) de_int (de_var 0)) de_int) da_nil)) da_nil))) da_nil))) da_nil))))))) (dss_ghost (ghost_freeze 1) (dss_one (ds_ret (de_var 1)))))))
/-! rows_above: 0 row 1 found 2 at 3 longer 4 begun 5 number -/
def b_rows_above_1 : FS := sIf (fOr (fNot (fTru (fVar 4))) (fTest (fBin (fVar 5) (fBin (fVar 4) (fUn (fC (.int 1)) (g1 negF)) (g2 ixF)) (g2 gtF)))) (sDrop (fMeth isLst (fVar 3) (fCons (fBin (fVar 4) (fTup (fCons (fVar 5) (fNil))) (g2 (addF false))) (fNil)) appendG)) (sSkip)
def b_rows_above_2 : FS := sFor (fRng2 (fCons (fBin (fVar 0) (fVar 2) (g2 ixF)) (fCons (fBin (fBin (fVar 0) (fBin (fVar 2) (fC (.int 1)) (g2 (addF false))) (g2 ixF)) (fC (.int 1)) (g2 (addF false))) (fNil)))) (gNm 5) (b_rows_above_1)
def b_rows_above_3 : FS := sSeq (sAsg (fLst true (fNil)) (gNm 3)) (sSeq (sFor (fSeq (fVar 1)) (gNm 4) (b_rows_above_2)) (sGhost (tFreeze 3) (sAsg (fVar 3) (gNm 1))))
def b_rows_above : FS := sSeq (sAsg (fLst false (fCons (fTup (fNil)) (fNil))) (gNm 1)) (sSeq (sFor (fRng1 (fCons (fBin (fCall (gc1 lenF) (fCons (fVar 0) (fNil))) (fC (.int 1)) (g2 subF)) (fNil))) (gNm 2) (b_rows_above_3)) (sRet (fVar 1)))
def m_rows_above : List Sl → Store → Out Sl := lift (pureOf 6 b_rows_above)
theorem ok_rows_above (T : Fx K mg fd__law_deck fd__law_take fd__law_good fd__law_rows fd__law_alternates fd__law_matrices fd_ratio fd_factorial fd_count_alternating fd_count_refined fd_rows_above fd_count_alternating_by_triangles fd__law_plain fd__law_power fd_sign_rows fd_alternating_matrices fd_law fi_TooMany) : FnOk pw w K mg base (L2.CX pw w) 1 (He.ga K "rows_above") fd_rows_above ["row"] (spG K 1 m_rows_above) :=
  fn_pure T.d_rows_above.F sc_rows_above (b := b_rows_above) (fun cdv A outer s H E hr => (dss_cons (ds_set 1 sc_rows_above.nd (de_lst false (da_cons (de_tup da_nil) da_nil))) (dss_cons (ds_for (passes_of rfl) rfl (di_range1 rfl T.n_range (da_cons (de_bin op_sub opd_sub (de_cb clr_len cld_len rfl T.n_len (by decide +kernel) (da_cons (de_var 0) da_nil)) de_int) da_nil)) (dg_name 2 sc_rows_above.nd) (dss_cons (ds_set 3 sc_rows_above.nd (de_lst true da_nil)) (dss_cons (ds_for (passes_of rfl) rfl (di_seq (de_var 1)) (dg_name 4 sc_rows_above.nd) (dss_one (ds_for (passes_of rfl) rfl (di_range2 rfl T.n_range (da_cons (de_ix (de_var 0) (de_var 2)) (da_cons (de_bin opr_add (opd_add false) (de_ix (de_var 0) (de_bin opr_add (opd_add false) (de_var 2) de_int)) de_int) da_nil))) (dg_name 5 sc_rows_above.nd) (dss_one (ds_if (dt_w (dw_or (dt_not (dt_tru (de_var 4))) (dw_or1 (dt_cmp op_gt (opd_ord _) (nomark _) (de_var 5) (de_ix (de_var 4) (de_un un_neg und_neg de_int)))))) (dss_one (ds_expr (de_lm PySem.F.slot_list_append PySem.F.type_list_append mt_append mtd_append (de_var 3) (da_cons (de_bin opr_add (opd_add false) (de_var 4) (de_tup (da_cons (de_var 5) da_nil))) da_nil)))) dss_nil))))) (dss_ghost (ghost_freeze 3) (dss_one (ds_set 1 sc_rows_above.nd (de_var 3))))))) (dss_one (ds_ret (de_var 1))))))
/-! count_alternating_by_triangles: 0 n 1 found 2 _ 3 longer 4 row 5 many 6 above -/
def b_count_alternating_by_triangles_1 : FS := sDPut (fVar 3) (fVar 6) (fBin (fDGet2 (fVar 3) (fVar 6) (fC (.int 0))) (fVar 5) (g2 (addF false)))
def b_count_alternating_by_triangles_2 : FS := sFor (fSeq (fCall (m_rows_above) (fCons (fVar 4) (fNil)))) (gNm 6) (b_count_alternating_by_triangles_1)
def b_count_alternating_by_triangles_3 : FS := sSeq (sAsg (fDictN true) (gNm 3)) (sSeq (sFor (fItems (fVar 1)) (gUnpA 2 (gsCons (gNm 4) (gsCons (gNm 5) (gsNil)))) (b_count_alternating_by_triangles_2)) (sGhost (tFreeze 3) (sAsg (fVar 3) (gNm 1))))
def b_count_alternating_by_triangles : FS := sSeq (sAsg (fDisp false (fRgB (fC (.int 1)) (fBin (fVar 0) (fC (.int 1)) (g2 (addF false))) rgT) (fC (.int 1))) (gNm 1)) (sSeq (sFor (fRng1 (fCons (fVar 0) (fNil))) (gNm 2) (b_count_alternating_by_triangles_3)) (sRet (fSumV (fVar 1))))
def m_count_alternating_by_triangles : List Sl → Store → Out Sl := lift (pureOf 7 b_count_alternating_by_triangles)
theorem ok_count_alternating_by_triangles (T : Fx K mg fd__law_deck fd__law_take fd__law_good fd__law_rows fd__law_alternates fd__law_matrices fd_ratio fd_factorial fd_count_alternating fd_count_refined fd_rows_above fd_count_alternating_by_triangles fd__law_plain fd__law_power fd_sign_rows fd_alternating_matrices fd_law fi_TooMany) : FnOk pw w K mg base (L2.CX pw w) 2 (He.ga K "count_alternating_by_triangles") fd_count_alternating_by_triangles ["n"] (spG K 1 m_count_alternating_by_triangles) :=
  fn_pure T.d_count_alternating_by_triangles.F sc_count_alternating_by_triangles (b := b_count_alternating_by_triangles) (fun cdv A outer s H E hr => (dss_cons (ds_set 1 sc_count_alternating_by_triangles.nd (de_dispN false (hu1 hr) (de_trg2 rfl rfl T.n_tuple rfl T.n_range de_int (de_bin opr_add (opd_add false) (de_var 0) de_int)) de_int)) (dss_cons (ds_for (passes_of rfl) rfl (di_range1 rfl T.n_range (da_cons (de_var 0) da_nil)) (dg_name 2 sc_count_alternating_by_triangles.nd) (dss_cons (ds_set 3 sc_count_alternating_by_triangles.nd (de_dictN true)) (dss_cons (ds_for (passes_of rfl) rfl (di_items (de_var 1)) (dg_any rfl (dgs_cons (dg_name 4 sc_count_alternating_by_triangles.nd) (dgs_cons (dg_name 5 sc_count_alternating_by_triangles.nd) dgs_nil))) (dss_one (ds_for (passes_of rfl) rfl (di_seq (de_call (ok_rows_above T) (hr.mono (by decide)) rfl T.d_rows_above.m T.d_rows_above.F.kp T.d_rows_above.b (takes_of rfl rfl rfl rfl) (da_cons (de_var 4) da_nil))) (dg_name 6 sc_count_alternating_by_triangles.nd) (dss_one (ds_dput (hu1 hr) (de_var 3) (de_var 6) (de_bin opr_add (opd_add false) (de_dget2 (hu1 hr) (de_var 3) (de_var 6) de_int) (de_var 5))))))) (dss_ghost (ghost_freeze 3) (dss_one (ds_set 1 sc_count_alternating_by_triangles.nd (de_var 3))))))) (dss_one (ds_ret (de_sumV rfl rfl T.n_sum (de_var 1)))))))
/-! _law_plain: 0 value 1 item -/
theorem ok__law_plain (T : Fx K mg fd__law_deck fd__law_take fd__law_good fd__law_rows fd__law_alternates fd__law_matrices fd_ratio fd_factorial fd_count_alternating fd_count_refined fd_rows_above fd_count_alternating_by_triangles fd__law_plain fd__law_power fd_sign_rows fd_alternating_matrices fd_law fi_TooMany) : ∀ n : Nat, FnOk pw w K mg base (L2.CX pw w) (n + 0) (He.ga K "_law_plain") fd__law_plain ["value"] (spG K 1 (m_plain n))
  | 0 => fn_noneP
  | k + 1 => by
    have ih := ok__law_plain T k
    have e : k + 1 + 0 = (k + 0) + 1 := by omega
    rw [e]
    exact fn_pure T.d__law_plain.F sc__law_plain (b := b_plain (m_plain k)) (fun cdv A outer s H E hr => (dss_cons (ds_if (dt_val (de_cb clr_isi cld_isi rfl T.n_isinstance (by decide +kernel) (da_cons (de_var 0) (da_cons (de_tup (da_cons (de_ty rfl T.n_tuple (by decide +kernel)) (da_cons (de_ty rfl T.n_list (by decide +kernel)) da_nil))) da_nil)))) (dss_one (ds_ret (de_bin opr_add (opd_add false) (de_lst false (da_cons (de_cb clr_isi cld_isi rfl T.n_isinstance (by decide +kernel) (da_cons (de_var 0) (da_cons (de_ty rfl T.n_list (by decide +kernel)) da_nil))) da_nil)) (de_lc false (own := [("item", 1)]) rfl sc__law_plain.nd (di_seq (de_var 0)) (blkOk_by (by kernel_rfl)) (fun _ _ _ _ _ => (pct_nm 1 sc__law_plain.nd rfl (by first | exact Or.inl rfl | exact Or.inr rfl) (by first | exact .inl rfl | exact .inr rfl))) (fun _ _ _ _ _ => dts_nil) (fun _ _ _ _ _ => (de_call (ih) (hr.mono (by omega)) rfl T.d__law_plain.m T.d__law_plain.F.kp T.d__law_plain.b takes0 (da_cons (de_var 1) da_nil))))))) dss_nil) (dss_cons (ds_if (dt_w (dw_or (dt_isN (de_var 0)) (dw_or1 (dt_val (de_cb clr_isi cld_isi rfl T.n_isinstance (by decide +kernel) (da_cons (de_var 0) (da_cons (de_ty rfl T.n_bool (by decide +kernel)) da_nil))))))) (dss_one (ds_ret (de_ix (de_lst false (da_cons de_str (da_cons de_str (da_cons de_str da_nil)))) (de_bin opr_add (opd_add false) (de_ct call_int1 cld_int1 rfl T.n_int (by decide +kernel) (da_cons (de_notN (de_var 0)) da_nil)) (de_ct call_int1 cld_int1 rfl T.n_int (by decide +kernel) (da_cons (de_cmp (op_isC false) (opd_is false) rfl (de_var 0) de_bl) da_nil)))))) dss_nil) (dss_cons (ds_if (dt_val (de_cb clr_isi cld_isi rfl T.n_isinstance (by decide +kernel) (da_cons (de_var 0) (da_cons (de_tup (da_cons (de_ty rfl T.n_int (by decide +kernel)) (da_cons (de_ty rfl T.n_str (by decide +kernel)) da_nil))) da_nil)))) (dss_one (ds_ret (de_lst false (da_cons (de_cb clr_isi cld_isi rfl T.n_isinstance (by decide +kernel) (da_cons (de_var 0) (da_cons (de_ty rfl T.n_str (by decide +kernel)) da_nil))) (da_cons (de_var 0) da_nil))))) dss_nil) (dss_one (ds_ret de_str))))))
/-! _law_power: 0 many 1 found 2 turn -/
def b__law_power_1 : FS := sAsg (fBin (fVar 1) (fC (.int 2)) (g2 (mulF false))) (gNm 1)
def b__law_power : FS := sSeq (sAsg (fC (.int 1)) (gNm 1)) (sSeq (sFor (fRng1 (fCons (fVar 0) (fNil))) (gNm 2) (b__law_power_1)) (sRet (fVar 1)))
def m__law_power : List Sl → Store → Out Sl := lift (pureOf 3 b__law_power)
theorem ok__law_power (T : Fx K mg fd__law_deck fd__law_take fd__law_good fd__law_rows fd__law_alternates fd__law_matrices fd_ratio fd_factorial fd_count_alternating fd_count_refined fd_rows_above fd_count_alternating_by_triangles fd__law_plain fd__law_power fd_sign_rows fd_alternating_matrices fd_law fi_TooMany) : FnOk pw w K mg base (L2.CX pw w) 1 (He.ga K "_law_power") fd__law_power ["many"] (spG K 1 m__law_power) :=
  fn_pure T.d__law_power.F sc__law_power (b := b__law_power) (fun cdv A outer s H E hr => (dss_cons (ds_set 1 sc__law_power.nd de_int) (dss_cons (ds_for (passes_of rfl) rfl (di_range1 rfl T.n_range (da_cons (de_var 0) da_nil)) (dg_name 2 sc__law_power.nd) (dss_one (ds_set 1 sc__law_power.nd (de_bin opr_mul (opd_mul false) (de_var 1) de_int)))) (dss_one (ds_ret (de_var 1))))))
/-! sign_rows: 0 size 1 found 2 _ 3 longer 4 row 5 total 6 number -/
def b_sign_rows_1 : FS := sIf (fTest (fBin (fBin (fVar 5) (fVar 6) (g2 (addF false))) (fTup (fCons (fC (.int 0)) (fCons (fC (.int 1)) (fNil)))) (g2 (inF false)))) (sDrop (fMeth isLst (fVar 3) (fCons (fTup (fCons (fBin (fVar 4) (fTup (fCons (fVar 6) (fNil))) (g2 (addF false))) (fCons (fBin (fVar 5) (fVar 6) (g2 (addF false))) (fNil)))) (fNil)) appendG)) (sSkip)
def b_sign_rows_2 : FS := sFor (fSeq (fTup (fCons (fUn (fC (.int 1)) (g1 negF)) (fCons (fC (.int 0)) (fCons (fC (.int 1)) (fNil)))))) (gNm 6) (b_sign_rows_1)
def b_sign_rows_3 : FS := sSeq (sAsg (fLst true (fNil)) (gNm 3)) (sSeq (sFor (fSeq (fVar 1)) (gUnpA 2 (gsCons (gNm 4) (gsCons (gNm 5) (gsNil)))) (b_sign_rows_2)) (sGhost (tFreeze 3) (sAsg (fVar 3) (gNm 1))))
def b_sign_rows : FS := sSeq (sAsg (fLst false (fCons (fTup (fCons (fTup (fNil)) (fCons (fC (.int 0)) (fNil)))) (fNil))) (gNm 1)) (sSeq (sFor (fRng1 (fCons (fVar 0) (fNil))) (gNm 2) (b_sign_rows_3)) (sRet (fComp false [4, 5] (fSeq (fVar 1)) (CT.tp [4, 5]) (fTest (fBin (fVar 5) (fC (.int 1)) (g2 eqF))) (fVar 4))))
def m_sign_rows : List Sl → Store → Out Sl := lift (pureOf 7 b_sign_rows)
theorem ok_sign_rows (T : Fx K mg fd__law_deck fd__law_take fd__law_good fd__law_rows fd__law_alternates fd__law_matrices fd_ratio fd_factorial fd_count_alternating fd_count_refined fd_rows_above fd_count_alternating_by_triangles fd__law_plain fd__law_power fd_sign_rows fd_alternating_matrices fd_law fi_TooMany) : FnOk pw w K mg base (L2.CX pw w) 1 (He.ga K "sign_rows") fd_sign_rows ["size"] (spG K 1 m_sign_rows) :=
  fn_pure T.d_sign_rows.F sc_sign_rows (b := b_sign_rows) (fun cdv A outer s H E hr => (dss_cons (ds_set 1 sc_sign_rows.nd (de_lst false (da_cons (de_tup (da_cons (de_tup da_nil) (da_cons de_int da_nil))) da_nil))) (dss_cons (ds_for (passes_of rfl) rfl (di_range1 rfl T.n_range (da_cons (de_var 0) da_nil)) (dg_name 2 sc_sign_rows.nd) (dss_cons (ds_set 3 sc_sign_rows.nd (de_lst true da_nil)) (dss_cons (ds_for (passes_of rfl) rfl (di_seq (de_var 1)) (dg_any rfl (dgs_cons (dg_name 4 sc_sign_rows.nd) (dgs_cons (dg_name 5 sc_sign_rows.nd) dgs_nil))) (dss_one (ds_for (passes_of rfl) rfl (di_seq (de_tup (da_cons (de_un un_neg und_neg de_int) (da_cons de_int (da_cons de_int da_nil))))) (dg_name 6 sc_sign_rows.nd) (dss_one (ds_if (dt_in false (hu65 hr) rfl (de_bin opr_add (opd_add false) (de_var 5) (de_var 6)) (de_tup (da_cons de_int (da_cons de_int da_nil)))) (dss_one (ds_expr (de_lm PySem.F.slot_list_append PySem.F.type_list_append mt_append mtd_append (de_var 3) (da_cons (de_tup (da_cons (de_bin opr_add (opd_add false) (de_var 4) (de_tup (da_cons (de_var 6) da_nil))) (da_cons (de_bin opr_add (opd_add false) (de_var 5) (de_var 6)) da_nil))) da_nil)))) dss_nil))))) (dss_ghost (ghost_freeze 3) (dss_one (ds_set 1 sc_sign_rows.nd (de_var 3))))))) (dss_one (ds_ret (de_lc false (own := [("row", 4), ("total", 5)]) rfl sc_sign_rows.nd (di_seq (de_var 1)) (blkOk_by (by kernel_rfl)) (fun _ _ _ _ _ => (pct_tp [4, 5] rfl (pgs_cons (pg_name (i := 4) sc_sign_rows.nd rfl (by first | exact Or.inl rfl | exact Or.inr rfl) (by first | exact .inl rfl | exact .inr rfl)) (pgs_cons (pg_name (i := 5) sc_sign_rows.nd rfl (by first | exact Or.inl rfl | exact Or.inr rfl) (by first | exact .inl rfl | exact .inr rfl)) pgs_nil rfl) rfl) rfl rfl)) (fun _ _ _ _ _ => (dts_one (dt_cmp (op_eqD hr.units) opd_eq (nomark _) (de_var 5) de_int))) (fun _ _ _ _ _ => (de_var 4))))))))
/-! alternating_matrices: 0 n 1 rows 2 found 3 _ 4 longer 5 matrix 6 sums 7 row 8 after 9 total 10 number -/
def b_alternating_matrices_1 : FS := sSeq (sAsg (fCall (gc1 tupleF) (fCons (fComp false [9, 10] (fZip (fCons (fVar 6) (fCons (fVar 7) (fNil)))) (CT.tp [9, 10]) (fYes) (fBin (fVar 9) (fVar 10) (g2 (addF false)))) (fNil))) (gNm 8)) (sIf (fAnd (fTest (fBin (fCall (gc1 minA) (fCons (fVar 8) (fNil))) (fC (.int 0)) (g2 geF))) (fTest (fBin (fCall (gc1 maxA) (fCons (fVar 8) (fNil))) (fC (.int 1)) (g2 leF)))) (sDrop (fMeth isLst (fVar 4) (fCons (fTup (fCons (fBin (fVar 5) (fTup (fCons (fVar 7) (fNil))) (g2 (addF false))) (fCons (fVar 8) (fNil)))) (fNil)) appendG)) (sSkip))
def b_alternating_matrices_2 : FS := sFor (fSeq (fVar 1)) (gNm 7) (b_alternating_matrices_1)
def b_alternating_matrices_3 : FS := sSeq (sAsg (fLst true (fNil)) (gNm 4)) (sSeq (sFor (fSeq (fVar 2)) (gUnpA 2 (gsCons (gNm 5) (gsCons (gNm 6) (gsNil)))) (b_alternating_matrices_2)) (sGhost (tFreeze 4) (sAsg (fVar 4) (gNm 2))))
def b_alternating_matrices : FS := sSeq (sIf (fTest (fBin (fVar 0) (fC (.int 5)) (g2 gtF))) (sRaise "TooMany" (fCons (fC (.str "matrices")) (fNil))) (sSkip)) (sSeq (sAsg (fCall (m_sign_rows) (fCons (fVar 0) (fNil))) (gNm 1)) (sSeq (sAsg (fLst false (fCons (fTup (fCons (fTup (fNil)) (fCons (fBin (fTup (fCons (fC (.int 0)) (fNil))) (fVar 0) (g2 (mulA false))) (fNil)))) (fNil))) (gNm 2)) (sSeq (sFor (fRng1 (fCons (fVar 0) (fNil))) (gNm 3) (b_alternating_matrices_3)) (sRet (fCall (gc1 (sortF3 false false)) (fCons (fComp false [5, 3] (fSeq (fVar 2)) (CT.tp [5, 3]) (fYes) (fVar 5)) (fNil)))))))
def m_alternating_matrices : List Sl → Store → Out Sl := lift (pureOf 11 b_alternating_matrices)
theorem ok_alternating_matrices (T : Fx K mg fd__law_deck fd__law_take fd__law_good fd__law_rows fd__law_alternates fd__law_matrices fd_ratio fd_factorial fd_count_alternating fd_count_refined fd_rows_above fd_count_alternating_by_triangles fd__law_plain fd__law_power fd_sign_rows fd_alternating_matrices fd_law fi_TooMany) : FnOk pw w K mg base (L2.CX pw w) 3 (He.ga K "alternating_matrices") fd_alternating_matrices ["n"] (spG K 1 m_alternating_matrices) :=
  fn_pure T.d_alternating_matrices.F sc_alternating_matrices (b := b_alternating_matrices) (fun cdv A outer s H E hr => (dss_cons (ds_if (dt_cmp op_gt (opd_ord _) (nomark _) (de_var 0) (de_gint rfl T.g_MOST_SIZE.choose_spec)) (dss_one (ds_raise rfl (takes_of rfl rfl rfl rfl) T.x_TooMany T.m_TooMany rfl (oi_TooMany T) (hr.mono (by decide)) T.b_TooMany (da_cons de_str da_nil))) dss_nil) (dss_cons (ds_set 1 sc_alternating_matrices.nd (de_call (ok_sign_rows T) (hr.mono (by decide)) rfl T.d_sign_rows.m T.d_sign_rows.F.kp T.d_sign_rows.b (takes_of rfl rfl rfl rfl) (da_cons (de_var 0) da_nil))) (dss_cons (ds_set 2 sc_alternating_matrices.nd (de_lst false (da_cons (de_tup (da_cons (de_tup da_nil) (da_cons (de_bin opr_mulA (opd_mulA false) (de_tup (da_cons de_int da_nil)) (de_var 0)) da_nil))) da_nil))) (dss_cons (ds_for (passes_of rfl) rfl (di_range1 rfl T.n_range (da_cons (de_var 0) da_nil)) (dg_name 3 sc_alternating_matrices.nd) (dss_cons (ds_set 4 sc_alternating_matrices.nd (de_lst true da_nil)) (dss_cons (ds_for (passes_of rfl) rfl (di_seq (de_var 2)) (dg_any rfl (dgs_cons (dg_name 5 sc_alternating_matrices.nd) (dgs_cons (dg_name 6 sc_alternating_matrices.nd) dgs_nil))) (dss_one (ds_for (passes_of rfl) rfl (di_seq (de_var 1)) (dg_name 7 sc_alternating_matrices.nd) (dss_cons (ds_set 8 sc_alternating_matrices.nd (de_ct call_tupleS cld_tuple rfl T.n_tuple (by decide +kernel) (da_cons (de_lc false (own := [("total", 9), ("number", 10)]) rfl sc_alternating_matrices.nd (di_zip rfl T.n_zip (da_cons (de_var 6) (da_cons (de_var 7) da_nil))) (blkOk_by (by kernel_rfl)) (fun _ _ _ _ _ => (pct_tp [9, 10] rfl (pgs_cons (pg_name (i := 9) sc_alternating_matrices.nd rfl (by first | exact Or.inl rfl | exact Or.inr rfl) (by first | exact .inl rfl | exact .inr rfl)) (pgs_cons (pg_name (i := 10) sc_alternating_matrices.nd rfl (by first | exact Or.inl rfl | exact Or.inr rfl) (by first | exact .inl rfl | exact .inr rfl)) pgs_nil rfl) rfl) rfl rfl)) (fun _ _ _ _ _ => dts_nil) (fun _ _ _ _ _ => (de_bin opr_add (opd_add false) (de_var 9) (de_var 10)))) da_nil))) (dss_one (ds_if (dt_w (dw_and (dt_cmp op_ge (opd_ord _) (nomark _) (de_cb (cr_minA rfl) cld_minA rfl T.n_min (by decide +kernel) (da_cons (de_var 8) da_nil)) de_int) (dw_and1 (dt_cmp op_le (opd_ord _) (nomark _) (de_cb (cr_maxA rfl) cld_maxA rfl T.n_max (by decide +kernel) (da_cons (de_var 8) da_nil)) de_int)))) (dss_one (ds_expr (de_lm PySem.F.slot_list_append PySem.F.type_list_append mt_append mtd_append (de_var 4) (da_cons (de_tup (da_cons (de_bin opr_add (opd_add false) (de_var 5) (de_tup (da_cons (de_var 7) da_nil))) (da_cons (de_var 8) da_nil))) da_nil)))) dss_nil)))))) (dss_ghost (ghost_freeze 4) (dss_one (ds_set 2 sc_alternating_matrices.nd (de_var 4))))))) (dss_one (ds_ret (de_cb (cr_sort3 rfl (hu70 hr)) (cld_sort3 false false) rfl T.n_sorted (by decide +kernel) (da_cons (de_lc false (own := [("matrix", 5), ("_", 3)]) rfl sc_alternating_matrices.nd (di_seq (de_var 2)) (blkOk_by (by kernel_rfl)) (fun _ _ _ _ _ => (pct_tp [5, 3] rfl (pgs_cons (pg_name (i := 5) sc_alternating_matrices.nd rfl (by first | exact Or.inl rfl | exact Or.inr rfl) (by first | exact .inl rfl | exact .inr rfl)) (pgs_cons (pg_name (i := 3) sc_alternating_matrices.nd rfl (by first | exact Or.inl rfl | exact Or.inr rfl) (by first | exact .inl rfl | exact .inr rfl)) pgs_nil rfl) rfl) rfl rfl)) (fun _ _ _ _ _ => dts_nil) (fun _ _ _ _ _ => (de_var 5))) da_nil)))))))))
/-! law: 0 script 1 deck 2 size 3 due 4 told 5 places 6 total 7 rows 8 great 9 middle 10 at 11 row -/
def b_law_s14 : FS := sRet (fBin (fLst false (fCons (fCall (m_count_alternating) (fCons (fC (.int 6)) (fNil))) (fCons (fCall (m_count_alternating) (fCons (fC (.int 8)) (fNil))) (fNil)))) (fLst false (fCons (fC (.int 7436)) (fCons (fC (.int 10850216)) (fNil)))) (g2 eqF))
def b_law_s13 : FS := sIf (fTest (fBin (fCall (m_plain 5) (fCons (fCall (m_count_alternating_by_triangles) (fCons (fVar 9) (fNil))) (fNil))) (fCall (m_plain 5) (fCons (fCall (m_count_alternating) (fCons (fVar 9) (fNil))) (fNil))) (g2 neF))) (sRet (fC (.bl false))) (sSkip)
def b_law_s12 : FS := sAsg (fCall (m_take) (fCons (fVar 1) (fCons (fC (.int 8)) (fNil)))) (gNm 9)
def b_law_s11 : FS := sIf (fOr (fTest (fBin (fVar 4) (fUn (fVar 4) (g1 (revF false))) (g2 neF))) (fOr (fTest (fBin (fCall (gc1 sumA) (fCons (fVar 4) (fNil))) (fCall (m_count_alternating) (fCons (fVar 8) (fNil))) (g2 neF))) (fTest (fBin (fBin (fVar 4) (fC (.int 0)) (g2 ixF)) (fCall (m_count_alternating) (fCons (fBin (fVar 8) (fC (.int 1)) (g2 subF)) (fNil))) (g2 neF))))) (sRet (fC (.bl false))) (sSkip)
def b_law_s10 : FS := sAsg (fCall (m_count_refined) (fCons (fVar 8) (fNil))) (gNm 4)
def b_law_s9 : FS := sAsg (fBin (fC (.int 1)) (fCall (m_take) (fCons (fVar 1) (fCons (fC (.int 12)) (fNil)))) (g2 (addF false))) (gNm 8)
def b_law_s8 : FS := sIf (fTest (fBin (fVar 6) (fCall (m__law_power) (fCons (fBin (fBin (fVar 2) (fBin (fVar 2) (fC (.int 1)) (g2 subF)) (g2 (mulF false))) (fC (.int 2)) (g2 fdivF)) (fNil))) (g2 neF))) (sRet (fC (.bl false))) (sSkip)
def b_law_1 : FS := sAsg (fBin (fVar 6) (fCall (m__law_power) (fCons (fCall (gc1 sumA) (fCons (fComp false [11] (fSeq (fVar 7)) (CT.nm 11) (fYes) (fMeth2 (fVar 11) (fCons (fUn (fC (.int 1)) (g1 negF)) (fNil)) countG countTG)) (fNil))) (fNil))) (g2 (addF false))) (gNm 6)
def b_law_s7 : FS := sFor (fSeq (fVar 3)) (gNm 7) (b_law_1)
def b_law_s6 : FS := sAsg (fC (.int 0)) (gNm 6)
def b_law_s5 : FS := sIf (fTest (fBin (fVar 2) (fC (.int 0)) (g2 gtF))) (sSeq (sAsg (fComp false [10] (fRng1 (fCons (fVar 2) (fNil))) (CT.nm 10) (fYes) (fCall (gc1 lenF) (fCons (fComp false [7] (fSeq (fVar 3)) (CT.nm 7) (fTest (fBin (fBin (fBin (fVar 7) (fC (.int 0)) (g2 ixF)) (fVar 10) (g2 ixF)) (fC (.int 1)) (g2 eqF))) (fVar 7)) (fNil)))) (gNm 5)) (sIf (fTest (fBin (fCall (m_plain 5) (fCons (fCall (m_count_refined) (fCons (fVar 2) (fNil))) (fNil))) (fCall (m_plain 5) (fCons (fVar 5) (fNil))) (g2 neF))) (sRet (fC (.bl false))) (sSkip))) (sSkip)
def b_law_s4 : FS := sIf (fTest (fBin (fCall (m_plain 5) (fCons (fVar 4) (fNil))) (fCall (m_plain 5) (fCons (fBin (fLst false (fCons (fCall (gc1 lenF) (fCons (fVar 3) (fNil))) (fNil))) (fC (.int 3)) (g2 (mulF false))) (fNil))) (g2 neF))) (sRet (fC (.bl false))) (sSkip)
def b_law_s3 : FS := sAsg (fLst false (fCons (fCall (m_count_alternating) (fCons (fVar 2) (fNil))) (fCons (fCall (m_count_alternating_by_triangles) (fCons (fVar 2) (fNil))) (fCons (fCall (gc1 lenF) (fCons (fCall (m_alternating_matrices) (fCons (fVar 2) (fNil))) (fNil))) (fNil))))) (gNm 4)
def b_law_s2 : FS := sAsg (fCall (m__law_matrices) (fCons (fVar 2) (fNil))) (gNm 3)
def b_law_s1 : FS := sAsg (fCall (m_take) (fCons (fVar 1) (fCons (fC (.int 5)) (fNil)))) (gNm 2)
def b_law_s0 : FS := sAsg (fCall (m_deck) (fCons (fVar 0) (fCons (fC (.int 20)) (fCons (fC (.int 14)) (fNil))))) (gNm 1)
def b_law : FS := sSeq (b_law_s0) (sSeq (b_law_s1) (sSeq (b_law_s2) (sSeq (b_law_s3) (sSeq (b_law_s4) (sSeq (b_law_s5) (sSeq (b_law_s6) (sSeq (b_law_s7) (sSeq (b_law_s8) (sSeq (b_law_s9) (sSeq (b_law_s10) (sSeq (b_law_s11) (sSeq (b_law_s12) (sSeq (b_law_s13) (b_law_s14))))))))))))))
def m_law : List Sl → Store → Out Sl := lift (pureOf 12 b_law)
theorem ok_law (T : Fx K mg fd__law_deck fd__law_take fd__law_good fd__law_rows fd__law_alternates fd__law_matrices fd_ratio fd_factorial fd_count_alternating fd_count_refined fd_rows_above fd_count_alternating_by_triangles fd__law_plain fd__law_power fd_sign_rows fd_alternating_matrices fd_law fi_TooMany) : FnOk pw w K mg base (L2.CX pw w) 6 (He.ga K "law") fd_law ["script"] (spG K 1 m_law) :=
  fn_pure T.d_law.F sc_law (b := b_law) (fun cdv A outer s H E hr => (dss_cons (ds_set 1 sc_law.nd (de_call (ok__law_deck T) (hr.mono (by decide)) rfl T.d__law_deck.m T.d__law_deck.F.kp T.d__law_deck.b (takes_of rfl rfl rfl rfl) (da_cons (de_var 0) (da_cons de_int (da_cons de_int da_nil))))) (dss_cons (ds_set 2 sc_law.nd (de_call (ok__law_take T) (hr.mono (by decide)) rfl T.d__law_take.m T.d__law_take.F.kp T.d__law_take.b (takes_of rfl rfl rfl rfl) (da_cons (de_var 1) (da_cons de_int da_nil)))) (dss_cons (ds_set 3 sc_law.nd (de_call (ok__law_matrices T) (hr.mono (by decide)) rfl T.d__law_matrices.m T.d__law_matrices.F.kp T.d__law_matrices.b (takes_of rfl rfl rfl rfl) (da_cons (de_var 2) da_nil))) (dss_cons (ds_set 4 sc_law.nd (de_lst false (da_cons (de_call (ok_count_alternating T) (hr.mono (by decide)) rfl T.d_count_alternating.m T.d_count_alternating.F.kp T.d_count_alternating.b (takes_of rfl rfl rfl rfl) (da_cons (de_var 2) da_nil)) (da_cons (de_call (ok_count_alternating_by_triangles T) (hr.mono (by decide)) rfl T.d_count_alternating_by_triangles.m T.d_count_alternating_by_triangles.F.kp T.d_count_alternating_by_triangles.b (takes_of rfl rfl rfl rfl) (da_cons (de_var 2) da_nil)) (da_cons (de_cb clr_len cld_len rfl T.n_len (by decide +kernel) (da_cons (de_call (ok_alternating_matrices T) (hr.mono (by decide)) rfl T.d_alternating_matrices.m T.d_alternating_matrices.F.kp T.d_alternating_matrices.b (takes_of rfl rfl rfl rfl) (da_cons (de_var 2) da_nil)) da_nil)) da_nil))))) (dss_cons (ds_if (dt_cmp (op_neD hr.units) opd_ne (nomark _) (de_call (ok__law_plain T 5) (hr.mono (by decide)) rfl T.d__law_plain.m T.d__law_plain.F.kp T.d__law_plain.b (takes_of rfl rfl rfl rfl) (da_cons (de_var 4) da_nil)) (de_call (ok__law_plain T 5) (hr.mono (by decide)) rfl T.d__law_plain.m T.d__law_plain.F.kp T.d__law_plain.b (takes_of rfl rfl rfl rfl) (da_cons (de_bin opr_mul (opd_mul false) (de_lst false (da_cons (de_cb clr_len cld_len rfl T.n_len (by decide +kernel) (da_cons (de_var 3) da_nil)) da_nil)) de_int) da_nil))) (dss_one (ds_ret de_bl)) dss_nil) (dss_cons (ds_if (dt_cmp op_gt (opd_ord _) (nomark _) (de_var 2) de_int) (dss_cons (ds_setLc false 5 (own := [("at", 10)]) rfl sc_law.nd rfl (di_range1 rfl T.n_range (da_cons (de_var 2) da_nil)) (blkOk_by (by kernel_rfl)) (fun _ _ _ _ _ => (pct_nm 10 sc_law.nd rfl (by first | exact Or.inl rfl | exact Or.inr rfl) (by first | exact .inl rfl | exact .inr rfl))) (fun _ _ _ _ _ => dts_nil) (fun _ _ _ _ _ => (de_cb clr_len cld_len rfl T.n_len (by decide +kernel) (da_cons (de_lc false (own := [("rows", 7)]) rfl sc_law.nd (di_seq (de_var 3)) (blkOk_by (by kernel_rfl)) (fun _ _ _ _ _ => (pct_nm 7 sc_law.nd rfl (by first | exact Or.inl rfl | exact Or.inr rfl) (by first | exact .inl rfl | exact .inr rfl))) (fun _ _ _ _ _ => (dts_one (dt_cmp (op_eqD hr.units) opd_eq (nomark _) (de_ix (de_ix (de_var 7) de_int) (de_var 10)) de_int))) (fun _ _ _ _ _ => (de_var 7))) da_nil)))) (dss_one (ds_if (dt_cmp (op_neD hr.units) opd_ne (nomark _) (de_call (ok__law_plain T 5) (hr.mono (by decide)) rfl T.d__law_plain.m T.d__law_plain.F.kp T.d__law_plain.b (takes_of rfl rfl rfl rfl) (da_cons (de_call (ok_count_refined T) (hr.mono (by decide)) rfl T.d_count_refined.m T.d_count_refined.F.kp T.d_count_refined.b (takes_of rfl rfl rfl rfl) (da_cons (de_var 2) da_nil)) da_nil)) (de_call (ok__law_plain T 5) (hr.mono (by decide)) rfl T.d__law_plain.m T.d__law_plain.F.kp T.d__law_plain.b (takes_of rfl rfl rfl rfl) (da_cons (de_var 5) da_nil))) (dss_one (ds_ret de_bl)) dss_nil))) dss_nil) (dss_cons (ds_set 6 sc_law.nd de_int) (dss_cons (ds_for (passes_of rfl) rfl (di_seq (de_var 3)) (dg_name 7 sc_law.nd) (dss_one (ds_set 6 sc_law.nd (de_bin opr_add (opd_add false) (de_var 6) (de_call (ok__law_power T) (hr.mono (by decide)) rfl T.d__law_power.m T.d__law_power.F.kp T.d__law_power.b (takes_of rfl rfl rfl rfl) (da_cons (de_cb (cr_sumA rfl) cld_sumA rfl T.n_sum (by decide +kernel) (da_cons (de_lc false (own := [("row", 11)]) rfl sc_law.nd (di_seq (de_var 7)) (blkOk_by (by kernel_rfl)) (fun _ _ _ _ _ => (pct_nm 11 sc_law.nd rfl (by first | exact Or.inl rfl | exact Or.inr rfl) (by first | exact .inl rfl | exact .inr rfl))) (fun _ _ _ _ _ => dts_nil) (fun _ _ _ _ _ => (de_ma PySem.F.slot_list_count PySem.F.type_list_count mt_lcount mtd_count PySem.F.slot_tuple_count PySem.F.type_tuple_count mt_tcount mtd_tcount (de_var 11) (da_cons (de_un un_neg und_neg de_int) da_nil)))) da_nil)) da_nil)))))) (dss_cons (ds_if (dt_cmp (op_neD hr.units) opd_ne (nomark _) (de_var 6) (de_call (ok__law_power T) (hr.mono (by decide)) rfl T.d__law_power.m T.d__law_power.F.kp T.d__law_power.b (takes_of rfl rfl rfl rfl) (da_cons (de_bin op_fdivN opd_fdiv (de_bin opr_mul (opd_mul false) (de_var 2) (de_bin op_sub opd_sub (de_var 2) de_int)) de_int) da_nil))) (dss_one (ds_ret de_bl)) dss_nil) (dss_cons (ds_set 8 sc_law.nd (de_bin opr_add (opd_add false) de_int (de_call (ok__law_take T) (hr.mono (by decide)) rfl T.d__law_take.m T.d__law_take.F.kp T.d__law_take.b (takes_of rfl rfl rfl rfl) (da_cons (de_var 1) (da_cons de_int da_nil))))) (dss_cons (ds_set 4 sc_law.nd (de_call (ok_count_refined T) (hr.mono (by decide)) rfl T.d_count_refined.m T.d_count_refined.F.kp T.d_count_refined.b (takes_of rfl rfl rfl rfl) (da_cons (de_var 8) da_nil))) (dss_cons (ds_if (dt_w (dw_or (dt_cmp (op_neD hr.units) opd_ne (nomark _) (de_var 4) (de_rev false (de_var 4))) (dw_or (dt_cmp (op_neD hr.units) opd_ne (nomark _) (de_cb (cr_sumA rfl) cld_sumA rfl T.n_sum (by decide +kernel) (da_cons (de_var 4) da_nil)) (de_call (ok_count_alternating T) (hr.mono (by decide)) rfl T.d_count_alternating.m T.d_count_alternating.F.kp T.d_count_alternating.b (takes_of rfl rfl rfl rfl) (da_cons (de_var 8) da_nil))) (dw_or1 (dt_cmp (op_neD hr.units) opd_ne (nomark _) (de_ix (de_var 4) de_int) (de_call (ok_count_alternating T) (hr.mono (by decide)) rfl T.d_count_alternating.m T.d_count_alternating.F.kp T.d_count_alternating.b (takes_of rfl rfl rfl rfl) (da_cons (de_bin op_sub opd_sub (de_var 8) de_int) da_nil))))))) (dss_one (ds_ret de_bl)) dss_nil) (dss_cons (ds_set 9 sc_law.nd (de_call (ok__law_take T) (hr.mono (by decide)) rfl T.d__law_take.m T.d__law_take.F.kp T.d__law_take.b (takes_of rfl rfl rfl rfl) (da_cons (de_var 1) (da_cons de_int da_nil)))) (dss_cons (ds_if (dt_cmp (op_neD hr.units) opd_ne (nomark _) (de_call (ok__law_plain T 5) (hr.mono (by decide)) rfl T.d__law_plain.m T.d__law_plain.F.kp T.d__law_plain.b (takes_of rfl rfl rfl rfl) (da_cons (de_call (ok_count_alternating_by_triangles T) (hr.mono (by decide)) rfl T.d_count_alternating_by_triangles.m T.d_count_alternating_by_triangles.F.kp T.d_count_alternating_by_triangles.b (takes_of rfl rfl rfl rfl) (da_cons (de_var 9) da_nil)) da_nil)) (de_call (ok__law_plain T 5) (hr.mono (by decide)) rfl T.d__law_plain.m T.d__law_plain.F.kp T.d__law_plain.b (takes_of rfl rfl rfl rfl) (da_cons (de_call (ok_count_alternating T) (hr.mono (by decide)) rfl T.d_count_alternating.m T.d_count_alternating.F.kp T.d_count_alternating.b (takes_of rfl rfl rfl rfl) (da_cons (de_var 9) da_nil)) da_nil))) (dss_one (ds_ret de_bl)) dss_nil) (dss_one (ds_ret (de_cmp (op_eqD hr.units) opd_eq (nomark _) (de_lst false (da_cons (de_call (ok_count_alternating T) (hr.mono (by decide)) rfl T.d_count_alternating.m T.d_count_alternating.F.kp T.d_count_alternating.b (takes_of rfl rfl rfl rfl) (da_cons de_int da_nil)) (da_cons (de_call (ok_count_alternating T) (hr.mono (by decide)) rfl T.d_count_alternating.m T.d_count_alternating.F.kp T.d_count_alternating.b (takes_of rfl rfl rfl rfl) (da_cons de_int da_nil)) da_nil))) (de_lst false (da_cons de_int (da_cons de_int da_nil)))))))))))))))))))))
end
/-! ### the head -/
def hk : HK where
  fa := [.glo "_law_deck", .glo "_law_take", .glo "_law_good", .glo "_law_rows", .glo "_law_alternates", .glo "_law_matrices", .glo "ratio", .glo "factorial", .glo "count_alternating", .glo "count_refined", .glo "rows_above", .glo "count_alternating_by_triangles", .glo "_law_plain", .glo "_law_power", .glo "sign_rows", .glo "alternating_matrices", .glo "law", .free "abs", .free "bool", .free "int", .free "isinstance", .free "len", .free "list", .free "max", .free "min", .free "range", .free "sorted", .free "str", .free "sum", .free "tuple", .free "zip", .glo "TooMany", .glo "TableError", .int "MOST_SIZE" 5]
  fn := [⟨("_law_deck", none), "_law_deck", "_law_deck", defArgs s__law_deck, defBody s__law_deck, defScope s__law_deck, [], []⟩, ⟨("_law_take", none), "_law_take", "_law_take", defArgs s__law_take, defBody s__law_take, defScope s__law_take, [], []⟩, ⟨("_law_good", none), "_law_good", "_law_good", defArgs s__law_good, defBody s__law_good, defScope s__law_good, [], []⟩, ⟨("_law_rows", none), "_law_rows", "_law_rows", defArgs s__law_rows, defBody s__law_rows, defScope s__law_rows, [], []⟩, ⟨("_law_alternates", none), "_law_alternates", "_law_alternates", defArgs s__law_alternates, defBody s__law_alternates, defScope s__law_alternates, [], []⟩, ⟨("_law_matrices", none), "_law_matrices", "_law_matrices", defArgs s__law_matrices, defBody s__law_matrices, defScope s__law_matrices, [], []⟩, ⟨("ratio", none), "ratio", "ratio", defArgs s_ratio, defBody s_ratio, defScope s_ratio, [], []⟩, ⟨("factorial", none), "factorial", "factorial", defArgs s_factorial, defBody s_factorial, defScope s_factorial, [], []⟩, ⟨("count_alternating", none), "count_alternating", "count_alternating", defArgs s_count_alternating, defBody s_count_alternating, defScope s_count_alternating, [], []⟩, ⟨("count_refined", none), "count_refined", "count_refined", defArgs s_count_refined, defBody s_count_refined, defScope s_count_refined, [], []⟩, ⟨("rows_above", none), "rows_above", "rows_above", defArgs s_rows_above, defBody s_rows_above, defScope s_rows_above, [], []⟩, ⟨("count_alternating_by_triangles", none), "count_alternating_by_triangles", "count_alternating_by_triangles", defArgs s_count_alternating_by_triangles, defBody s_count_alternating_by_triangles, defScope s_count_alternating_by_triangles, [], []⟩, ⟨("_law_plain", none), "_law_plain", "_law_plain", defArgs s__law_plain, defBody s__law_plain, defScope s__law_plain, [], []⟩, ⟨("_law_power", none), "_law_power", "_law_power", defArgs s__law_power, defBody s__law_power, defScope s__law_power, [], []⟩, ⟨("sign_rows", none), "sign_rows", "sign_rows", defArgs s_sign_rows, defBody s_sign_rows, defScope s_sign_rows, [], []⟩, ⟨("alternating_matrices", none), "alternating_matrices", "alternating_matrices", defArgs s_alternating_matrices, defBody s_alternating_matrices, defScope s_alternating_matrices, [], []⟩, ⟨("law", none), "law", "law", defArgs s_law, defBody s_law, defScope s_law, [], []⟩, ⟨("TooMany", some "__init__"), "__init__", "TooMany.__init__", defArgs s_TooMany, defBody s_TooMany, defScope s_TooMany, [], []⟩]
  ex := fun K => (exCB K "TooMany" && exBB K "TableError") && ((decide (PySem.W.exmOne K (.ref (He.ga K "TooMany")) (.ref (He.ga K "TooMany")) = some true)) && (true))
theorem Fx_of {K : PySem.W.Frag} {h : Heap} {mg : Str → Option Value} (X : K.In h) (G : h.Ns mainGlobals mg) (c : SaysC hk K) : ∃ fd__law_deck fd__law_take fd__law_good fd__law_rows fd__law_alternates fd__law_matrices fd_ratio fd_factorial fd_count_alternating fd_count_refined fd_rows_above fd_count_alternating_by_triangles fd__law_plain fd__law_power fd_sign_rows fd_alternating_matrices fd_law fi_TooMany, Fx K mg fd__law_deck fd__law_take fd__law_good fd__law_rows fd__law_alternates fd__law_matrices fd_ratio fd_factorial fd_count_alternating fd_count_refined fd_rows_above fd_count_alternating_by_triangles fd__law_plain fd__law_power fd_sign_rows fd_alternating_matrices fd_law fi_TooMany := by
  obtain ⟨c1, c2⟩ := c
  obtain ⟨fd__law_deck, F__law_deck⟩ := c1.def_ 0 rfl
  obtain ⟨fd__law_take, F__law_take⟩ := c1.def_ 1 rfl
  obtain ⟨fd__law_good, F__law_good⟩ := c1.def_ 2 rfl
  obtain ⟨fd__law_rows, F__law_rows⟩ := c1.def_ 3 rfl
  obtain ⟨fd__law_alternates, F__law_alternates⟩ := c1.def_ 4 rfl
  obtain ⟨fd__law_matrices, F__law_matrices⟩ := c1.def_ 5 rfl
  obtain ⟨fd_ratio, F_ratio⟩ := c1.def_ 6 rfl
  obtain ⟨fd_factorial, F_factorial⟩ := c1.def_ 7 rfl
  obtain ⟨fd_count_alternating, F_count_alternating⟩ := c1.def_ 8 rfl
  obtain ⟨fd_count_refined, F_count_refined⟩ := c1.def_ 9 rfl
  obtain ⟨fd_rows_above, F_rows_above⟩ := c1.def_ 10 rfl
  obtain ⟨fd_count_alternating_by_triangles, F_count_alternating_by_triangles⟩ := c1.def_ 11 rfl
  obtain ⟨fd__law_plain, F__law_plain⟩ := c1.def_ 12 rfl
  obtain ⟨fd__law_power, F__law_power⟩ := c1.def_ 13 rfl
  obtain ⟨fd_sign_rows, F_sign_rows⟩ := c1.def_ 14 rfl
  obtain ⟨fd_alternating_matrices, F_alternating_matrices⟩ := c1.def_ 15 rfl
  obtain ⟨fd_law, F_law⟩ := c1.def_ 16 rfl
  obtain ⟨fi_TooMany, F_TooMany⟩ := c1.def_ 17 rfl
  obtain ⟨k0, c2⟩ := Bool.and_eq_true_iff.mp c2
  obtain ⟨k1, c2⟩ := Bool.and_eq_true_iff.mp c2
  exact ⟨_, _, _, _, _, _, _, _, _, _, _, _, _, _, _, _, _, _, { d__law_deck := ⟨F__law_deck, He.glo_ok X G (c1.fact 0 (f := .glo "_law_deck") rfl), F__law_deck.bindsN (fun _ _ _ _ _ _ us hl => (match us, hl with | [_, _, _], _ => rfl))⟩, d__law_take := ⟨F__law_take, He.glo_ok X G (c1.fact 1 (f := .glo "_law_take") rfl), F__law_take.bindsN (fun _ _ _ _ _ _ us hl => (match us, hl with | [_, _], _ => rfl))⟩, d__law_good := ⟨F__law_good, He.glo_ok X G (c1.fact 2 (f := .glo "_law_good") rfl), F__law_good.bindsN (fun _ _ _ _ _ _ us hl => (match us, hl with | [_], _ => rfl))⟩, d__law_rows := ⟨F__law_rows, He.glo_ok X G (c1.fact 3 (f := .glo "_law_rows") rfl), F__law_rows.bindsN (fun _ _ _ _ _ _ us hl => (match us, hl with | [_], _ => rfl))⟩, d__law_alternates := ⟨F__law_alternates, He.glo_ok X G (c1.fact 4 (f := .glo "_law_alternates") rfl), F__law_alternates.bindsN (fun _ _ _ _ _ _ us hl => (match us, hl with | [_], _ => rfl))⟩, d__law_matrices := ⟨F__law_matrices, He.glo_ok X G (c1.fact 5 (f := .glo "_law_matrices") rfl), F__law_matrices.bindsN (fun _ _ _ _ _ _ us hl => (match us, hl with | [_], _ => rfl))⟩, d_ratio := ⟨F_ratio, He.glo_ok X G (c1.fact 6 (f := .glo "ratio") rfl), F_ratio.bindsN (fun _ _ _ _ _ _ us hl => (match us, hl with | [_, _], _ => rfl))⟩, d_factorial := ⟨F_factorial, He.glo_ok X G (c1.fact 7 (f := .glo "factorial") rfl), F_factorial.bindsN (fun _ _ _ _ _ _ us hl => (match us, hl with | [_], _ => rfl))⟩, d_count_alternating := ⟨F_count_alternating, He.glo_ok X G (c1.fact 8 (f := .glo "count_alternating") rfl), F_count_alternating.bindsN (fun _ _ _ _ _ _ us hl => (match us, hl with | [_], _ => rfl))⟩, d_count_refined := ⟨F_count_refined, He.glo_ok X G (c1.fact 9 (f := .glo "count_refined") rfl), F_count_refined.bindsN (fun _ _ _ _ _ _ us hl => (match us, hl with | [_], _ => rfl))⟩, d_rows_above := ⟨F_rows_above, He.glo_ok X G (c1.fact 10 (f := .glo "rows_above") rfl), F_rows_above.bindsN (fun _ _ _ _ _ _ us hl => (match us, hl with | [_], _ => rfl))⟩, d_count_alternating_by_triangles := ⟨F_count_alternating_by_triangles, He.glo_ok X G (c1.fact 11 (f := .glo "count_alternating_by_triangles") rfl), F_count_alternating_by_triangles.bindsN (fun _ _ _ _ _ _ us hl => (match us, hl with | [_], _ => rfl))⟩, d__law_plain := ⟨F__law_plain, He.glo_ok X G (c1.fact 12 (f := .glo "_law_plain") rfl), F__law_plain.bindsN (fun _ _ _ _ _ _ us hl => (match us, hl with | [_], _ => rfl))⟩, d__law_power := ⟨F__law_power, He.glo_ok X G (c1.fact 13 (f := .glo "_law_power") rfl), F__law_power.bindsN (fun _ _ _ _ _ _ us hl => (match us, hl with | [_], _ => rfl))⟩, d_sign_rows := ⟨F_sign_rows, He.glo_ok X G (c1.fact 14 (f := .glo "sign_rows") rfl), F_sign_rows.bindsN (fun _ _ _ _ _ _ us hl => (match us, hl with | [_], _ => rfl))⟩, d_alternating_matrices := ⟨F_alternating_matrices, He.glo_ok X G (c1.fact 15 (f := .glo "alternating_matrices") rfl), F_alternating_matrices.bindsN (fun _ _ _ _ _ _ us hl => (match us, hl with | [_], _ => rfl))⟩, d_law := ⟨F_law, He.glo_ok X G (c1.fact 16 (f := .glo "law") rfl), F_law.bindsN (fun _ _ _ _ _ _ us hl => (match us, hl with | [_], _ => rfl))⟩, n_abs := He.free_ok X G (c1.fact 17 (f := .free "abs") rfl), n_bool := He.free_ok X G (c1.fact 18 (f := .free "bool") rfl), n_int := He.free_ok X G (c1.fact 19 (f := .free "int") rfl), n_isinstance := He.free_ok X G (c1.fact 20 (f := .free "isinstance") rfl), n_len := He.free_ok X G (c1.fact 21 (f := .free "len") rfl), n_list := He.free_ok X G (c1.fact 22 (f := .free "list") rfl), n_max := He.free_ok X G (c1.fact 23 (f := .free "max") rfl), n_min := He.free_ok X G (c1.fact 24 (f := .free "min") rfl), n_range := He.free_ok X G (c1.fact 25 (f := .free "range") rfl), n_sorted := He.free_ok X G (c1.fact 26 (f := .free "sorted") rfl), n_str := He.free_ok X G (c1.fact 27 (f := .free "str") rfl), n_sum := He.free_ok X G (c1.fact 28 (f := .free "sum") rfl), n_tuple := He.free_ok X G (c1.fact 29 (f := .free "tuple") rfl), n_zip := He.free_ok X G (c1.fact 30 (f := .free "zip") rfl), x_TooMany := exCB_ok (Bool.and_eq_true_iff.mp k0).1, e_TooMany := exBB_ok (Bool.and_eq_true_iff.mp k0).2, m_TooMany := He.glo_ok X G (c1.fact 31 (f := .glo "TooMany") rfl), i_TooMany := F_TooMany, b_TooMany := F_TooMany.bindsN (fun _ _ _ _ _ _ us hl => (match us, hl with | [_, _], _ => rfl)), m_TableError := He.glo_ok X G (c1.fact 32 (f := .glo "TableError") rfl), q_TooMany_TooMany := of_decide_eq_true k1, g_MOST_SIZE := He.int_ok X G (c1.fact 33 (f := .int "MOST_SIZE" 5) rfl) }⟩
abbrev R : PySem.W.OpenRow := PySem.W.OpenLaw.row PySem.Challenge.rw_tablework_k94_whole_counts_of_sign_matri
abbrev hkk : PySem.W.Hook := hookC 5 hk
def ob (s : PySem.W.SharedT) : AlC := obsC 5 hk (HandSHeadRun.getT s)
theorem ob_eq (s : PySem.W.SharedT) : ob s = hkk.obs s.abs := obsC_eq (HandSHeadRun.getT_eq s)
theorem run (w : World) : HandSHeadRun.RunEq R (PySem.W.view R.prog [23]) hkk ob 3000 ["TableError", "TooMany", "ratio", "MOST_SIZE", "sign_rows", "alternating_matrices", "factorial", "count_alternating", "rows_above", "count_alternating_by_triangles", "count_refined", "_law_deck", "_law_take", "_law_plain", "_law_good", "_law_alternates", "_law_rows", "_law_matrices", "_law_power"] w := by
  intro os
  kernel_rfl
end k94

namespace k94
open PySem PySem.Spec PyProof.Rows L2 DL PT
def envOf : SOut → DL.Env
  | .go _ ρ _ => ρ
  | _ => []
def at_ (o : SOut) (i : Nat) : Option Sl := (envOf o).getD i none
abbrev tail1 : FS := sSeq b_law_s2 (sSeq b_law_s3 (sSeq b_law_s4 (sSeq b_law_s5 (sSeq b_law_s6 (sSeq b_law_s7 b_law_s8)))))
abbrev sE (s0 : Sl) (i : Int) : DL.Env := [some s0, some (.c 0), some (.v (.int i)), none, none, none, none, none, none, none, none, none]
abbrev Fin1 (i : Int) : Prop := ∀ (s0 : Sl) (dk : Option D), ∃ p3 p4 p5 p6 p7 p8 p9 p10 p11 : Option Sl, tail1 (sE s0 i) [dk] = .go .nx [some s0, some (.c 0), some (.v (.int i)), p3, p4, p5, p6, p7, p8, p9, p10, p11] [dk]
theorem f0 : Fin1 0 := fun s0 dk => ⟨at_ (tail1 (sE s0 0) [dk]) 3, at_ (tail1 (sE s0 0) [dk]) 4, at_ (tail1 (sE s0 0) [dk]) 5, at_ (tail1 (sE s0 0) [dk]) 6, at_ (tail1 (sE s0 0) [dk]) 7, at_ (tail1 (sE s0 0) [dk]) 8, at_ (tail1 (sE s0 0) [dk]) 9, at_ (tail1 (sE s0 0) [dk]) 10, at_ (tail1 (sE s0 0) [dk]) 11, by kernel_rfl⟩
theorem f1 : Fin1 1 := fun s0 dk => ⟨at_ (tail1 (sE s0 1) [dk]) 3, at_ (tail1 (sE s0 1) [dk]) 4, at_ (tail1 (sE s0 1) [dk]) 5, at_ (tail1 (sE s0 1) [dk]) 6, at_ (tail1 (sE s0 1) [dk]) 7, at_ (tail1 (sE s0 1) [dk]) 8, at_ (tail1 (sE s0 1) [dk]) 9, at_ (tail1 (sE s0 1) [dk]) 10, at_ (tail1 (sE s0 1) [dk]) 11, by kernel_rfl⟩
theorem f2 : Fin1 2 := fun s0 dk => ⟨at_ (tail1 (sE s0 2) [dk]) 3, at_ (tail1 (sE s0 2) [dk]) 4, at_ (tail1 (sE s0 2) [dk]) 5, at_ (tail1 (sE s0 2) [dk]) 6, at_ (tail1 (sE s0 2) [dk]) 7, at_ (tail1 (sE s0 2) [dk]) 8, at_ (tail1 (sE s0 2) [dk]) 9, at_ (tail1 (sE s0 2) [dk]) 10, at_ (tail1 (sE s0 2) [dk]) 11, by kernel_rfl⟩
theorem f3 : Fin1 3 := fun s0 dk => ⟨at_ (tail1 (sE s0 3) [dk]) 3, at_ (tail1 (sE s0 3) [dk]) 4, at_ (tail1 (sE s0 3) [dk]) 5, at_ (tail1 (sE s0 3) [dk]) 6, at_ (tail1 (sE s0 3) [dk]) 7, at_ (tail1 (sE s0 3) [dk]) 8, at_ (tail1 (sE s0 3) [dk]) 9, at_ (tail1 (sE s0 3) [dk]) 10, at_ (tail1 (sE s0 3) [dk]) 11, by kernel_rfl⟩
theorem f4 : Fin1 4 := fun s0 dk => ⟨at_ (tail1 (sE s0 4) [dk]) 3, at_ (tail1 (sE s0 4) [dk]) 4, at_ (tail1 (sE s0 4) [dk]) 5, at_ (tail1 (sE s0 4) [dk]) 6, at_ (tail1 (sE s0 4) [dk]) 7, at_ (tail1 (sE s0 4) [dk]) 8, at_ (tail1 (sE s0 4) [dk]) 9, at_ (tail1 (sE s0 4) [dk]) 10, at_ (tail1 (sE s0 4) [dk]) 11, by kernel_rfl⟩
abbrev tail2 : FS := sSeq b_law_s10 b_law_s11
abbrev gE (s0 : Sl) (o2 o3 o4 o5 o6 o7 : Option Sl) (i : Int) (o9 o10 o11 : Option Sl) : DL.Env := [some s0, some (.c 0), o2, o3, o4, o5, o6, o7, some (.v (.int i)), o9, o10, o11]
abbrev Fin2 (i : Int) : Prop := ∀ (s0 : Sl) (o2 o3 o4 o5 o6 o7 o9 o10 o11 : Option Sl) (dk : Option D), ∃ p4 : Option Sl, tail2 (gE s0 o2 o3 o4 o5 o6 o7 i o9 o10 o11) [dk] = .go .nx (gE s0 o2 o3 p4 o5 o6 o7 i o9 o10 o11) [dk]
theorem g_1 : Fin2 1 := fun s0 o2 o3 o4 o5 o6 o7 o9 o10 o11 dk => ⟨at_ (tail2 (gE s0 o2 o3 o4 o5 o6 o7 1 o9 o10 o11) [dk]) 4, by kernel_rfl⟩
theorem g_2 : Fin2 2 := fun s0 o2 o3 o4 o5 o6 o7 o9 o10 o11 dk => ⟨at_ (tail2 (gE s0 o2 o3 o4 o5 o6 o7 2 o9 o10 o11) [dk]) 4, by kernel_rfl⟩
theorem g_3 : Fin2 3 := fun s0 o2 o3 o4 o5 o6 o7 o9 o10 o11 dk => ⟨at_ (tail2 (gE s0 o2 o3 o4 o5 o6 o7 3 o9 o10 o11) [dk]) 4, by kernel_rfl⟩
theorem g_4 : Fin2 4 := fun s0 o2 o3 o4 o5 o6 o7 o9 o10 o11 dk => ⟨at_ (tail2 (gE s0 o2 o3 o4 o5 o6 o7 4 o9 o10 o11) [dk]) 4, by kernel_rfl⟩
theorem g_5 : Fin2 5 := fun s0 o2 o3 o4 o5 o6 o7 o9 o10 o11 dk => ⟨at_ (tail2 (gE s0 o2 o3 o4 o5 o6 o7 5 o9 o10 o11) [dk]) 4, by kernel_rfl⟩
theorem g_6 : Fin2 6 := fun s0 o2 o3 o4 o5 o6 o7 o9 o10 o11 dk => ⟨at_ (tail2 (gE s0 o2 o3 o4 o5 o6 o7 6 o9 o10 o11) [dk]) 4, by kernel_rfl⟩
theorem g_7 : Fin2 7 := fun s0 o2 o3 o4 o5 o6 o7 o9 o10 o11 dk => ⟨at_ (tail2 (gE s0 o2 o3 o4 o5 o6 o7 7 o9 o10 o11) [dk]) 4, by kernel_rfl⟩
theorem g_8 : Fin2 8 := fun s0 o2 o3 o4 o5 o6 o7 o9 o10 o11 dk => ⟨at_ (tail2 (gE s0 o2 o3 o4 o5 o6 o7 8 o9 o10 o11) [dk]) 4, by kernel_rfl⟩
theorem g_9 : Fin2 9 := fun s0 o2 o3 o4 o5 o6 o7 o9 o10 o11 dk => ⟨at_ (tail2 (gE s0 o2 o3 o4 o5 o6 o7 9 o9 o10 o11) [dk]) 4, by kernel_rfl⟩
theorem g_10 : Fin2 10 := fun s0 o2 o3 o4 o5 o6 o7 o9 o10 o11 dk => ⟨at_ (tail2 (gE s0 o2 o3 o4 o5 o6 o7 10 o9 o10 o11) [dk]) 4, by kernel_rfl⟩
theorem g_11 : Fin2 11 := fun s0 o2 o3 o4 o5 o6 o7 o9 o10 o11 dk => ⟨at_ (tail2 (gE s0 o2 o3 o4 o5 o6 o7 11 o9 o10 o11) [dk]) 4, by kernel_rfl⟩
theorem g_12 : Fin2 12 := fun s0 o2 o3 o4 o5 o6 o7 o9 o10 o11 dk => ⟨at_ (tail2 (gE s0 o2 o3 o4 o5 o6 o7 12 o9 o10 o11) [dk]) 4, by kernel_rfl⟩
abbrev Fin3 (i : Int) : Prop := ∀ (s0 : Sl) (o2 o3 o4 o5 o6 o7 o8 o10 o11 : Option Sl) (dk : Option D), b_law_s13 [some s0, some (.c 0), o2, o3, o4, o5, o6, o7, o8, some (.v (.int i)), o10, o11] [dk] = .go .nx [some s0, some (.c 0), o2, o3, o4, o5, o6, o7, o8, some (.v (.int i)), o10, o11] [dk]
theorem h_0 : Fin3 0 := fun s0 o2 o3 o4 o5 o6 o7 o8 o10 o11 dk => by kernel_rfl
theorem h_1 : Fin3 1 := fun s0 o2 o3 o4 o5 o6 o7 o8 o10 o11 dk => by kernel_rfl
theorem h_2 : Fin3 2 := fun s0 o2 o3 o4 o5 o6 o7 o8 o10 o11 dk => by kernel_rfl
theorem h_3 : Fin3 3 := fun s0 o2 o3 o4 o5 o6 o7 o8 o10 o11 dk => by kernel_rfl
theorem h_4 : Fin3 4 := fun s0 o2 o3 o4 o5 o6 o7 o8 o10 o11 dk => by kernel_rfl
theorem h_5 : Fin3 5 := fun s0 o2 o3 o4 o5 o6 o7 o8 o10 o11 dk => by kernel_rfl
theorem h_6 : Fin3 6 := fun s0 o2 o3 o4 o5 o6 o7 o8 o10 o11 dk => by kernel_rfl
theorem h_7 : Fin3 7 := fun s0 o2 o3 o4 o5 o6 o7 o8 o10 o11 dk => by kernel_rfl
theorem last (ρ : DL.Env) (μ : Store) : b_law_s14 ρ μ = .go (.rt (.v (.bl true))) ρ μ := by kernel_rfl
end k94

namespace k94
open PySem PySem.Spec PyProof.Rows L2 DL PT
theorem seq_step {f g : FS} {ρ ρ1 : DL.Env} {μ μ1 : Store} {r : SOut} (h : f ρ μ = .go .nx ρ1 μ1) (k : g ρ1 μ1 = r) : sSeq f g ρ μ = r := by
  unfold sSeq
  rw [h]
  exact k
theorem seq_asc (f g h : FS) (ρ : DL.Env) (μ : Store) : sSeq (sSeq f g) h ρ μ = sSeq f (sSeq g h) ρ μ := by
  unfold sSeq
  cases f ρ μ with
  | go c ρ μ => cases c <;> rfl
  | _ => rfl
theorem law_end {ns : List Int} {ρ : DL.Env} {μ : Store} {n : Nat} {b : FS} (key : b (startE n [.v (.fz (ns.map .int))]) [] = .go (.rt (.v (.bl true))) ρ μ) : lift (pureOf n b) [.v (.fz (ns.map .int))] [] = .ok (.v (.bl true)) [] := by
  simp [lift, getAll, pureOf, Sl.get, key, runS, allVB, D.nol, D.nolL]
theorem fin1 (i : Int) (h0 : 0 ≤ i) (h1 : i < 5) : Fin1 i := by
  rcases (show i = 0 ∨ i = 1 ∨ i = 2 ∨ i = 3 ∨ i = 4 by omega) with rfl | rfl | rfl | rfl | rfl
  · exact f0
  · exact f1
  · exact f2
  · exact f3
  · exact f4
theorem fin2 (i : Int) (h0 : 1 ≤ i) (h1 : i < 13) : Fin2 i := by
  rcases (show i = 1 ∨ i = 2 ∨ i = 3 ∨ i = 4 ∨ i = 5 ∨ i = 6 ∨ i = 7 ∨ i = 8 ∨ i = 9 ∨ i = 10 ∨ i = 11 ∨ i = 12 by omega) with rfl | rfl | rfl | rfl | rfl | rfl | rfl | rfl | rfl | rfl | rfl | rfl
  · exact g_1
  · exact g_2
  · exact g_3
  · exact g_4
  · exact g_5
  · exact g_6
  · exact g_7
  · exact g_8
  · exact g_9
  · exact g_10
  · exact g_11
  · exact g_12
theorem fin3 (i : Int) (h0 : 0 ≤ i) (h1 : i < 8) : Fin3 i := by
  rcases (show i = 0 ∨ i = 1 ∨ i = 2 ∨ i = 3 ∨ i = 4 ∨ i = 5 ∨ i = 6 ∨ i = 7 by omega) with rfl | rfl | rfl | rfl | rfl | rfl | rfl | rfl
  · exact h_0
  · exact h_1
  · exact h_2
  · exact h_3
  · exact h_4
  · exact h_5
  · exact h_6
  · exact h_7
theorem plain (ns : List Int) (hl : ns.length ≤ 63) : ∃ μ, m_law [.v (.fz (ns.map .int))] [] = .ok (.v (.bl true)) μ := by
  obtain ⟨deck, e, _, _⟩ := deck_eq ns (by omega) 20 14 (by omega) (by omega) (by decide)
  generalize hs0 : Sl.v (.fz (ns.map .int)) = s0 at *
  replace e : m_deck [s0, .v (.int 20), .v (.int 14)] [] = .ok (.c 0) [some (LiD deck)] := e
  have hs0' : [some s0, none, none, none, none, none, none, none, none, none, none, none] = startE 12 [s0] := rfl
  have e0 : b_law_s0 (startE 12 [s0]) [] = .go .nx [some s0, some (.c 0), none, none, none, none, none, none, none, none, none, none] [some (LiD deck)] := by
    rw [← hs0', b_law_s0]
    simp [bind_ok, bind_exc, st_ok, st_exc, seq_nx, seq_rt, seq_bk, seq_ct, seq_exc, turn_nx, turn_ct, turn_bk, turn_rt, turn_exc, mk_true, mk_false, runS_rt, runS_nx, runS_exc, forL_nil, get_off, get_off0, set_off, set_off0, take_len,  sSeq, sIf, sSkip, sRet, sDrop, sAsg, sFor, sGhost, tFreeze, fTest, fBin, fUn, fCall, fCons, fNil, fVar, fC, fAnd, fOr, fNot, fIf, fLst, fTup, fChain, fAndV, fOrV, gNot, allV, g1, g2, gc1, gc2, Sl.get, okV, gNm, gUnp, gUnpL, gsNil, gsCons,  fSeq, fRng1, fRng2, fEnum, fComp, fYes, CT.put, setAll, wipeE, fMeth, isLst, lstAt, appendG, extendG, popG, popAtG, reverseG, countG, fNo, fPart, fSl, slF, revF, addF, subF, mulF, fdivF, modF, powF, ordF, negF, isNonF, isF, absF, max2F, min2F, int1F, lenF, listF, tupleF, sumF, maxF, minF, ixF,  gSubF, setL, sPar, sAug, runC, lift, pureOf, getAll, allVB, D.nol, D.nolL, startE, isiF, seqOf, fRgA, fRgB, rgL, rgT, fTru, truB, gUnpA, fRng3, fZip, zipF, fRev, imulF, ifdivF, fMeth2, isTup, countTG, seqA, seqInts, sumA, maxA, minA, fLenSet, fdivW, mulW, fCallV, tyName, clsL, clsNm, isiB, eqF_int, neF_int, eqF_ints, neF_ints, eqF_intsT, neF_intsT, e]
  have t1 := take_eq deck 5 (by decide) []
  have q1 := tk_nonneg deck (k := 5) (by decide)
  have q2 := tk_lt deck (k := 5) (by decide)
  simp only [List.map_dropLast] at t1
  have e1 : b_law_s1 [some s0, some (.c 0), none, none, none, none, none, none, none, none, none, none] [some (LiD deck)] = .go .nx (sE s0 (tk deck 5)) [some (LiD deck.dropLast)] := by
    rw [b_law_s1]
    simp [bind_ok, bind_exc, st_ok, st_exc, seq_nx, seq_rt, seq_bk, seq_ct, seq_exc, turn_nx, turn_ct, turn_bk, turn_rt, turn_exc, mk_true, mk_false, runS_rt, runS_nx, runS_exc, forL_nil, get_off, get_off0, set_off, set_off0, take_len,  sSeq, sIf, sSkip, sRet, sDrop, sAsg, sFor, sGhost, tFreeze, fTest, fBin, fUn, fCall, fCons, fNil, fVar, fC, fAnd, fOr, fNot, fIf, fLst, fTup, fChain, fAndV, fOrV, gNot, allV, g1, g2, gc1, gc2, Sl.get, okV, gNm, gUnp, gUnpL, gsNil, gsCons,  fSeq, fRng1, fRng2, fEnum, fComp, fYes, CT.put, setAll, wipeE, fMeth, isLst, lstAt, appendG, extendG, popG, popAtG, reverseG, countG, fNo, fPart, fSl, slF, revF, addF, subF, mulF, fdivF, modF, powF, ordF, negF, isNonF, isF, absF, max2F, min2F, int1F, lenF, listF, tupleF, sumF, maxF, minF, ixF,  gSubF, setL, sPar, sAug, runC, lift, pureOf, getAll, allVB, D.nol, D.nolL, startE, isiF, seqOf, fRgA, fRgB, rgL, rgT, fTru, truB, gUnpA, fRng3, fZip, zipF, fRev, imulF, ifdivF, fMeth2, isTup, countTG, seqA, seqInts, sumA, maxA, minA, fLenSet, fdivW, mulW, fCallV, tyName, clsL, clsNm, isiB, eqF_int, neF_int, eqF_ints, neF_ints, eqF_intsT, neF_intsT, t1]
  obtain ⟨p3, p4, p5, p6, p7, p8, p9, p10, p11, e2⟩ := fin1 (tk deck 5) q1 q2 s0 (some (LiD deck.dropLast))
  generalize tk deck 5 = i at *
  generalize deck.dropLast = d1 at *
  have t2 := take_eq d1 12 (by decide) []
  have q3 := tk_nonneg d1 (k := 12) (by decide)
  have q4 := tk_lt d1 (k := 12) (by decide)
  simp only [List.map_dropLast] at t2
  have e9 : b_law_s9 [some s0, some (.c 0), some (.v (.int i)), p3, p4, p5, p6, p7, p8, p9, p10, p11] [some (LiD d1)] = .go .nx (gE s0 (some (.v (.int i))) p3 p4 p5 p6 p7 (1 + tk d1 12) p9 p10 p11) [some (LiD d1.dropLast)] := by
    rw [b_law_s9]
    simp [bind_ok, bind_exc, st_ok, st_exc, seq_nx, seq_rt, seq_bk, seq_ct, seq_exc, turn_nx, turn_ct, turn_bk, turn_rt, turn_exc, mk_true, mk_false, runS_rt, runS_nx, runS_exc, forL_nil, get_off, get_off0, set_off, set_off0, take_len,  sSeq, sIf, sSkip, sRet, sDrop, sAsg, sFor, sGhost, tFreeze, fTest, fBin, fUn, fCall, fCons, fNil, fVar, fC, fAnd, fOr, fNot, fIf, fLst, fTup, fChain, fAndV, fOrV, gNot, allV, g1, g2, gc1, gc2, Sl.get, okV, gNm, gUnp, gUnpL, gsNil, gsCons,  fSeq, fRng1, fRng2, fEnum, fComp, fYes, CT.put, setAll, wipeE, fMeth, isLst, lstAt, appendG, extendG, popG, popAtG, reverseG, countG, fNo, fPart, fSl, slF, revF, addF, subF, mulF, fdivF, modF, powF, ordF, negF, isNonF, isF, absF, max2F, min2F, int1F, lenF, listF, tupleF, sumF, maxF, minF, ixF,  gSubF, setL, sPar, sAug, runC, lift, pureOf, getAll, allVB, D.nol, D.nolL, startE, isiF, seqOf, fRgA, fRgB, rgL, rgT, fTru, truB, gUnpA, fRng3, fZip, zipF, fRev, imulF, ifdivF, fMeth2, isTup, countTG, seqA, seqInts, sumA, maxA, minA, fLenSet, fdivW, mulW, fCallV, tyName, clsL, clsNm, isiB, eqF_int, neF_int, eqF_ints, neF_ints, eqF_intsT, neF_intsT, t2]
  obtain ⟨r4, e10⟩ := fin2 (1 + tk d1 12) (by omega) (by omega) s0 (some (.v (.int i))) p3 p4 p5 p6 p7 p9 p10 p11 (some (LiD d1.dropLast))
  generalize 1 + tk d1 12 = j at *
  generalize d1.dropLast = d2 at *
  have t3 := take_eq d2 8 (by decide) []
  have q5 := tk_nonneg d2 (k := 8) (by decide)
  have q6 := tk_lt d2 (k := 8) (by decide)
  simp only [List.map_dropLast] at t3
  have e12 : b_law_s12 (gE s0 (some (.v (.int i))) p3 r4 p5 p6 p7 j p9 p10 p11) [some (LiD d2)] = .go .nx [some s0, some (.c 0), some (.v (.int i)), p3, r4, p5, p6, p7, some (.v (.int j)), some (.v (.int (tk d2 8))), p10, p11] [some (LiD d2.dropLast)] := by
    rw [b_law_s12]
    simp [bind_ok, bind_exc, st_ok, st_exc, seq_nx, seq_rt, seq_bk, seq_ct, seq_exc, turn_nx, turn_ct, turn_bk, turn_rt, turn_exc, mk_true, mk_false, runS_rt, runS_nx, runS_exc, forL_nil, get_off, get_off0, set_off, set_off0, take_len,  sSeq, sIf, sSkip, sRet, sDrop, sAsg, sFor, sGhost, tFreeze, fTest, fBin, fUn, fCall, fCons, fNil, fVar, fC, fAnd, fOr, fNot, fIf, fLst, fTup, fChain, fAndV, fOrV, gNot, allV, g1, g2, gc1, gc2, Sl.get, okV, gNm, gUnp, gUnpL, gsNil, gsCons,  fSeq, fRng1, fRng2, fEnum, fComp, fYes, CT.put, setAll, wipeE, fMeth, isLst, lstAt, appendG, extendG, popG, popAtG, reverseG, countG, fNo, fPart, fSl, slF, revF, addF, subF, mulF, fdivF, modF, powF, ordF, negF, isNonF, isF, absF, max2F, min2F, int1F, lenF, listF, tupleF, sumF, maxF, minF, ixF,  gSubF, setL, sPar, sAug, runC, lift, pureOf, getAll, allVB, D.nol, D.nolL, startE, isiF, seqOf, fRgA, fRgB, rgL, rgT, fTru, truB, gUnpA, fRng3, fZip, zipF, fRev, imulF, ifdivF, fMeth2, isTup, countTG, seqA, seqInts, sumA, maxA, minA, fLenSet, fdivW, mulW, fCallV, tyName, clsL, clsNm, isiB, eqF_int, neF_int, eqF_ints, neF_ints, eqF_intsT, neF_intsT, t3]
  have e13 := fin3 (tk d2 8) q5 q6 s0 (some (.v (.int i))) p3 r4 p5 p6 p7 (some (.v (.int j))) p10 p11 (some (LiD d2.dropLast))
  have r9 : sSeq b_law_s9 (sSeq tail2 (sSeq b_law_s12 (sSeq b_law_s13 b_law_s14))) _ [some (LiD d1)] = _ := seq_step e9 (seq_step e10 (seq_step e12 (seq_step e13 (last _ _))))
  have r2 : sSeq tail1 (sSeq b_law_s9 (sSeq tail2 (sSeq b_law_s12 (sSeq b_law_s13 b_law_s14)))) (sE s0 i) [some (LiD d1)] = _ := seq_step e2 r9
  have r2' : sSeq b_law_s2 (sSeq b_law_s3 (sSeq b_law_s4 (sSeq b_law_s5 (sSeq b_law_s6 (sSeq b_law_s7 (sSeq b_law_s8 (sSeq b_law_s9 (sSeq b_law_s10 (sSeq b_law_s11 (sSeq b_law_s12 (sSeq b_law_s13 b_law_s14))))))))))) (sE s0 i) [some (LiD d1)] = .go (.rt (.v (.bl true))) [some s0, some (.c 0), some (.v (.int i)), p3, r4, p5, p6, p7, some (.v (.int j)), some (.v (.int (tk d2 8))), p10, p11] [some (LiD d2.dropLast)] := by
    rw [← r2]
    show _ = sSeq (sSeq b_law_s2 (sSeq b_law_s3 (sSeq b_law_s4 (sSeq b_law_s5 (sSeq b_law_s6 (sSeq b_law_s7 b_law_s8)))))) (sSeq b_law_s9 (sSeq (sSeq b_law_s10 b_law_s11) (sSeq b_law_s12 (sSeq b_law_s13 b_law_s14)))) (sE s0 i) [some (LiD d1)]
    have as : ∀ f g h : FS, sSeq (sSeq f g) h = sSeq f (sSeq g h) := fun f g h => by
      funext ρ μ
      exact seq_asc f g h ρ μ
    simp only [as]
  have key : b_law (startE 12 [s0]) [] = _ := seq_step e0 (seq_step e1 r2')
  subst hs0
  exact ⟨[], law_end key⟩
end k94

open PySem PySem.W PySem.Calls PyProof.Rows
theorem PySem.Challenge.cw_tablework_k94_whole_counts_of_sign_matri_holds : PySem.Challenge.rw_tablework_k94_whole_counts_of_sign_matri.Holds := by
  w_on; o_law
  refine HandSHeadRun.head_any (r := OpenLaw.row PySem.Challenge.rw_tablework_k94_whole_counts_of_sign_matri) (q := view (OpenLaw.row PySem.Challenge.rw_tablework_k94_whole_counts_of_sign_matri).prog [23]) (H := k94.hkk) (ob := k94.ob) (M := 3000) (loose := ["TableError", "TooMany", "ratio", "MOST_SIZE", "sign_rows", "alternating_matrices", "factorial", "count_alternating", "rows_above", "count_alternating_by_triangles", "count_refined", "_law_deck", "_law_take", "_law_plain", "_law_good", "_law_alternates", "_law_rows", "_law_matrices", "_law_power"]) (d := HandSHeadRun.topDef (OpenLaw.row PySem.Challenge.rw_tablework_k94_whole_counts_of_sign_matri).prog 23) (kwd := []) k94.ob_eq
    (by kernel_rfl) (fun s => by kernel_rfl) k94.run (by kernel_rfl) (by kernel_rfl) (by kernel_rfl) (by rfl) (by first | assumption | decide +kernel) (by decide +kernel) ⟨rfl, rfl, rfl, rfl, rfl, by decide +kernel⟩ ?hw ?hc
  case hw => w_witness2
  case hc =>
    refine L2.walk_ofE (l := PySem.Challenge.rw_tablework_k94_whole_counts_of_sign_matri) (n := 63) (k := 6) (x := "script") (CX := L2.CX0) rfl (by decide) (by kernel_rfl) ⟨rfl, by decide, by decide⟩ ?F (fun _ _ _ _ z => z)
    intro w mg fa h Y G hmg0
    obtain ⟨K, KX, c⟩ := Y
    have hmg : mg ("law" : PySem.Str) = some (.ref fa) := by
      have e : (HandSHeadRun.topDef (OpenLaw.row PySem.Challenge.rw_tablework_k94_whole_counts_of_sign_matri).prog 23).name = ("law" : PySem.Str) := by kernel_rfl
      rw [← e]
      exact hmg0
    obtain ⟨fd__law_deck, fd__law_take, fd__law_good, fd__law_rows, fd__law_alternates, fd__law_matrices, fd_ratio, fd_factorial, fd_count_alternating, fd_count_refined, fd_rows_above, fd_count_alternating_by_triangles, fd__law_plain, fd__law_power, fd_sign_rows, fd_alternating_matrices, fd_law, fi_TooMany, T⟩ := k94.Fx_of KX G c
    have e := hmg.symm.trans T.d_law.m
    cases e
    have b : ∀ (s : Shared) (v : Value), BindsTo s fd_law ⟨[v], []⟩ [("script", v)] := fun s v => L2.FunD.bindsA (ps := ["script"]) T.d_law.F (fun _ _ _ _ _ _ us hl => (match us, hl with | [_], _ => rfl)) s [v] rfl
    exact ⟨K, fd_law, (fun vs H Q _ => DL.spG K 1 k94.m_law vs H Q L2.E0), KX, b, fun H a ns hl hO hS => DL.law_sp (k94.plain ns hl).choose_spec hO hS, fun base _ _ => DL.fn_cx0 (k94.ok_law T)⟩

