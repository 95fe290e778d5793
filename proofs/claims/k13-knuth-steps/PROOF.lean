import PyProof.Rows.All
import PySem.Challenge.RW_tablework_k13_knuth_steps
import Wide.All
import OpenK.AllK
import Wide.FinOn
import HandS.ForMost
import HandS.ForExc
import HandS.CallSlots
import HandS.ExcInit
import HandS.ExcField
import HandS.IsInst
import HandS.Style
import HandS.TupAny
import HandS.TupLe
import HandS.Zip
import HandS.Sort
import HandS.SortRule
import HandS.SortInts
import HandS.Deep
import HandS.NoneIn
import HandS.RevRange
import HandS.Rev
import HandS.SetFor
import HandS.HeadHook2
import KE.SortData
import KE.KStateDown
import HandS.Head0
import HandS.Head1
import HandS.Head2
import HandS.HeadEnd
set_option Elab.async false
set_option linter.all false
set_option maxRecDepth 100000
set_option maxHeartbeats 3900000
namespace DL
open PySem PySem.Spec PyProof.Rows L2

/-! ### plain data, what a slot holds, the store of what changes -/
inductive D where
  | non | bl (b : Bool) | int (i : Int) | str (x : Str) | ty (n : String) | glo (x : Str)
  | lst (ds : List D) | tup (ds : List D) | fz (ds : List D)
  | dK (ks : List Key) (vs : List D) | dT (ks : List (List Key)) (vs : List D)
  | ins (C : Str) (fs : List Str) (vs : List D)

structure Exc where
  cls : Str
  fs : List Str
  vs : List D

inductive Sl where
  | v (d : D) | c (n : Nat) | x (e : Exc)

abbrev Store := List (Option D)
abbrev Env := List (Option Sl)

inductive Out (α : Type) where
  | stuck | ok (a : α) (μ : Store) | exc (e : Exc) (μ : Store)

def Out.bind {α β : Type} : Out α → (α → Store → Out β) → Out β
  | .stuck, _ => .stuck
  | .ok a μ, k => k a μ
  | .exc e μ, _ => .exc e μ

theorem Out.bind_ok {α β : Type} {o : Out α} {k : α → Store → Out β} {b : β} {μ' : Store} (h : o.bind k = .ok b μ') : ∃ a μ, o = .ok a μ ∧ k a μ = .ok b μ' := by
  cases o with
  | stuck => cases h
  | ok a μ => exact ⟨a, μ, rfl, h⟩
  | exc e μ => cases h
/-- the ghost: the addresses that are laid for good, the cells' addresses (none: no more) -/
structure Gh where
  F : Addr → Prop
  am : List (Option Addr)
  ex : Option (Addr × Str × Option Addr)

/-- a tuple that is read: tracked, or of the written part -/
def TupAt (K : PySem.W.Frag) (H : Hp) (a : Addr) (xs : List V) : Prop :=
  H a = some (.tup xs) ∨ ∃ (o : Obj) (its : Array Value) (n : Nat), K.lookup a = some o ∧ o.cls = .type "tuple" ∧ o.data = .seq its n ∧ its.size ≤ sizeLine ∧ Vals xs its.toList
theorem TupAt.sq {K : PySem.W.Frag} {H : Hp} {a : Addr} {xs : List V} (h : TupAt K H a xs) : SqT K H a xs := by
  rcases h with h | h
  · exact .of h
  · exact .inr h
/-- a list that is read and never changes: frozen, or of the written part -/
def FzAt (K : PySem.W.Frag) (H : Hp) (a : Addr) (xs : List V) : Prop :=
  (∃ o, H a = some (.frz o (.lst xs))) ∨ ∃ (o : Obj) (its : Array Value) (n : Nat), K.lookup a = some o ∧ o.cls = .type "list" ∧ o.dict = none ∧ o.data = .seq its n ∧ its.size ≤ sizeLine ∧ Vals xs its.toList
theorem FzAt.sq {K : PySem.W.Frag} {H : Hp} {a : Addr} {xs : List V} (h : FzAt K H a xs) : SqL K H a xs := by
  rcases h with h | h
  · exact .inl (.inr h)
  · exact .inr h
mutual
inductive Rep (K : PySem.W.Frag) (F : Addr → Prop) (H : Hp) : D → V → Prop
  | non : Rep K F H .non .non
  | bl (b : Bool) : Rep K F H (.bl b) (.bl b)
  | int (i : Int) : Rep K F H (.int i) (.int i)
  | str (x : Str) : Rep K F H (.str x) (.str x)
  | ty (n : String) : Rep K F H (.ty n) (.ty n)
  | glo (x : Str) : Rep K F H (.glo x) (.ref (He.ga K x))
  | lst {ds : List D} {a : Addr} {xs : List V} (f : F a) (h : H a = some (.lst xs)) (r : RepL K F H ds xs) : Rep K F H (.lst ds) (.ref a)
  | fz {ds : List D} {a : Addr} {xs : List V} (h : FzAt K H a xs) (r : RepL K F H ds xs) : Rep K F H (.fz ds) (.ref a)
  | tup {ds : List D} {a : Addr} {xs : List V} (h : TupAt K H a xs) (r : RepL K F H ds xs) : Rep K F H (.tup ds) (.ref a)
  | dK {vs : List D} {a : Addr} {kvs : List (Key × V)} (f : F a) (h : H a = some (.dK kvs)) (r : RepL K F H vs (kvs.map (·.2))) : Rep K F H (.dK (kvs.map (·.1)) vs) (.ref a)
  | dT {vs : List D} {a : Addr} {kvs : List (List Key × V)} (f : F a) (h : H a = some (.dT kvs)) (r : RepL K F H vs (kvs.map (·.2))) : Rep K F H (.dT (kvs.map (·.1)) vs) (.ref a)
  | ins {C : Str} {vs : List D} {a dx : Addr} {fs : List (Str × V)} (f : F a) (h : H a = some (.ins (He.ga K C) dx fs)) (r : RepL K F H vs (fs.map (·.2))) : Rep K F H (.ins C (fs.map (·.1)) vs) (.ref a)
inductive RepL (K : PySem.W.Frag) (F : Addr → Prop) (H : Hp) : List D → List V → Prop
  | nil : RepL K F H [] []
  | cons {d : D} {v : V} {ds : List D} {vs : List V} (h : Rep K F H d v) (t : RepL K F H ds vs) : RepL K F H (d :: ds) (v :: vs)
end

section
variable {K : PySem.W.Frag} {F F' : Addr → Prop} {H H' : Hp}
/-- what does not change stays -/
theorem tupAt_mono {a : Addr} {xs : List V} (hk : ∀ a o, H a = some o → (F a ∨ ¬ Mut (some o)) → H' a = some o) (h : TupAt K H a xs) : TupAt K H' a xs := by
  rcases h with h | h
  · exact .inl (hk _ _ h (.inr fun z => z))
  · exact .inr h
theorem fzAt_mono {a : Addr} {xs : List V} (hk : ∀ a o, H a = some o → (F a ∨ ¬ Mut (some o)) → H' a = some o) (h : FzAt K H a xs) : FzAt K H' a xs := by
  rcases h with ⟨o, h⟩ | h
  · exact .inl ⟨o, hk _ _ h (.inr fun z => z)⟩
  · exact .inr h
mutual
theorem Rep.mono (hk : ∀ a o, H a = some o → (F a ∨ ¬ Mut (some o)) → H' a = some o) (hF : ∀ a, F a → F' a) : ∀ {d : D} {v : V}, Rep K F H d v → Rep K F' H' d v
  | _, _, .non => .non
  | _, _, .bl b => .bl b
  | _, _, .int i => .int i
  | _, _, .str x => .str x
  | _, _, .ty n => .ty n
  | _, _, .glo x => .glo x
  | _, _, .lst f h r => .lst (hF _ f) (hk _ _ h (.inl f)) (RepL.mono hk hF r)
  | _, _, .fz h r => .fz (fzAt_mono hk h) (RepL.mono hk hF r)
  | _, _, .tup h r => .tup (tupAt_mono hk h) (RepL.mono hk hF r)
  | _, _, .dK f h r => .dK (hF _ f) (hk _ _ h (.inl f)) (RepL.mono hk hF r)
  | _, _, .dT f h r => .dT (hF _ f) (hk _ _ h (.inl f)) (RepL.mono hk hF r)
  | _, _, .ins f h r => .ins (hF _ f) (hk _ _ h (.inl f)) (RepL.mono hk hF r)
theorem RepL.mono (hk : ∀ a o, H a = some o → (F a ∨ ¬ Mut (some o)) → H' a = some o) (hF : ∀ a, F a → F' a) : ∀ {ds : List D} {vs : List V}, RepL K F H ds vs → RepL K F' H' ds vs
  | _, _, .nil => .nil
  | _, _, .cons h t => .cons (Rep.mono hk hF h) (RepL.mono hk hF t)
end
theorem RepL.length : ∀ {ds : List D} {vs : List V}, RepL K F H ds vs → ds.length = vs.length
  | _, _, .nil => rfl
  | _, _, .cons _ t => congrArg (· + 1) (RepL.length t)
theorem RepL.append : ∀ {ds es : List D} {vs ws : List V}, RepL K F H ds vs → RepL K F H es ws → RepL K F H (ds ++ es) (vs ++ ws)
  | _, _, _, _, .nil, s => s
  | _, _, _, _, .cons h t, s => .cons h (RepL.append t s)
theorem RepL.get : ∀ {ds : List D} {vs : List V} {i : Nat} {d : D}, RepL K F H ds vs → ds[i]? = some d → ∃ v, vs[i]? = some v ∧ Rep K F H d v
  | _, _, _, _, .nil, e => by simp at e
  | _, _, 0, _, .cons h _, e => by simp at e; subst e; exact ⟨_, rfl, h⟩
  | _, _, i + 1, d, .cons _ t, e => by
    obtain ⟨v, h1, h2⟩ := RepL.get (i := i) (d := d) t (by simpa using e)
    exact ⟨v, by simpa using h1, h2⟩
theorem RepL.getV : ∀ {ds : List D} {vs : List V} {i : Nat} {v : V}, RepL K F H ds vs → vs[i]? = some v → ∃ d, ds[i]? = some d ∧ Rep K F H d v
  | _, _, _, _, .nil, e => by simp at e
  | _, _, 0, _, .cons h _, e => by simp at e; subst e; exact ⟨_, rfl, h⟩
  | _, _, i + 1, v, .cons _ t, e => by
    obtain ⟨d, h1, h2⟩ := RepL.getV (i := i) (v := v) t (by simpa using e)
    exact ⟨d, by simpa using h1, h2⟩
theorem RepL.set {d : D} {v : V} (h : Rep K F H d v) : ∀ {ds : List D} {vs : List V} (i : Nat), RepL K F H ds vs → RepL K F H (ds.set i d) (vs.set i v)
  | _, _, _, .nil => .nil
  | _, _, 0, .cons _ t => .cons h t
  | _, _, i + 1, .cons q t => .cons q (RepL.set h i t)
theorem RepL.take : ∀ {ds : List D} {vs : List V} (n : Nat), RepL K F H ds vs → RepL K F H (ds.take n) (vs.take n)
  | _, _, 0, _ => by simpa using RepL.nil
  | _, _, _ + 1, .nil => .nil
  | _, _, n + 1, .cons h t => .cons h (RepL.take n t)
theorem RepL.drop : ∀ {ds : List D} {vs : List V} (n : Nat), RepL K F H ds vs → RepL K F H (ds.drop n) (vs.drop n)
  | _, _, 0, r => r
  | _, _, _ + 1, .nil => .nil
  | _, _, n + 1, .cons _ t => RepL.drop n t
theorem RepL.reverse : ∀ {ds : List D} {vs : List V}, RepL K F H ds vs → RepL K F H ds.reverse vs.reverse
  | _, _, .nil => .nil
  | _, _, .cons h t => by
    rw [List.reverse_cons, List.reverse_cons]
    exact (RepL.reverse t).append (.cons h .nil)
theorem RepL.eraseIdx : ∀ {ds : List D} {vs : List V} (i : Nat), RepL K F H ds vs → RepL K F H (ds.eraseIdx i) (vs.eraseIdx i)
  | _, _, _, .nil => .nil
  | _, _, 0, .cons _ t => t
  | _, _, i + 1, .cons h t => .cons h (RepL.eraseIdx i t)
theorem RepL.dropLast : ∀ {ds : List D} {vs : List V}, RepL K F H ds vs → RepL K F H ds.dropLast vs.dropLast
  | _, _, .nil => .nil
  | _, _, .cons _ .nil => .nil
  | _, _, .cons h (.cons h2 t) => .cons h (RepL.dropLast (.cons h2 t))
theorem RepL.ints : ∀ {ns : List Int} {vs : List V}, RepL K F H (ns.map D.int) vs → vs = ns.map V.int
  | [], _, .nil => rfl
  | n :: ns, _, .cons h t => by
    cases h
    rw [RepL.ints t]
    rfl
theorem RepL.ofInts : ∀ (ns : List Int), RepL K F H (ns.map D.int) (ns.map V.int)
  | [] => .nil
  | n :: ns => .cons (.int n) (RepL.ofInts ns)
theorem RepL.strs : ∀ {ns : List Str} {vs : List V}, RepL K F H (ns.map D.str) vs → vs = ns.map V.str
  | [], _, .nil => rfl
  | n :: ns, _, .cons h t => by
    cases h
    rw [RepL.strs t]
    rfl
theorem RepL.ofStrs : ∀ (ns : List Str), RepL K F H (ns.map D.str) (ns.map V.str)
  | [] => .nil
  | n :: ns => .cons (.str n) (RepL.ofStrs ns)
end

/-! ### what stands at a cell -/
inductive RepAt (K : PySem.W.Frag) (F : Addr → Prop) (H : Hp) (a : Addr) : D → Prop
  | lst {ds : List D} {xs : List V} (h : H a = some (.lst xs)) (r : RepL K F H ds xs) : RepAt K F H a (.lst ds)
  | dK {vs : List D} {kvs : List (Key × V)} (h : H a = some (.dK kvs)) (r : RepL K F H vs (kvs.map (·.2))) : RepAt K F H a (.dK (kvs.map (·.1)) vs)
  | dT {vs : List D} {kvs : List (List Key × V)} (h : H a = some (.dT kvs)) (r : RepL K F H vs (kvs.map (·.2))) : RepAt K F H a (.dT (kvs.map (·.1)) vs)
  | ins {C : Str} {vs : List D} {dx : Addr} {fs : List (Str × V)} (h : H a = some (.ins (He.ga K C) dx fs)) (r : RepL K F H vs (fs.map (·.2))) : RepAt K F H a (.ins C (fs.map (·.1)) vs)
section
variable {K : PySem.W.Frag} {F F' : Addr → Prop} {H H' : Hp} {a : Addr} {d : D}
theorem RepAt.mut (h : RepAt K F H a d) : ∃ o, H a = some o ∧ Mut (some o) := by
  cases h with
  | lst h _ => exact ⟨_, h, trivial⟩
  | dK h _ => exact ⟨_, h, trivial⟩
  | dT h _ => exact ⟨_, h, trivial⟩
  | ins h _ => exact ⟨_, h, trivial⟩
theorem RepAt.rep (h : RepAt K F H a d) (f : F a) : Rep K F H d (.ref a) := by
  cases h with
  | lst h r => exact .lst f h r
  | dK h r => exact .dK f h r
  | dT h r => exact .dT f h r
  | ins h r => exact .ins f h r
theorem RepAt.mono (hk : ∀ a o, H a = some o → (F a ∨ ¬ Mut (some o)) → H' a = some o) (hF : ∀ a, F a → F' a) (ha : ∀ o, H a = some o → H' a = some o) (h : RepAt K F H a d) : RepAt K F' H' a d := by
  cases h with
  | lst h r => exact .lst (ha _ h) (r.mono hk hF)
  | dK h r => exact .dK (ha _ h) (r.mono hk hF)
  | dT h r => exact .dT (ha _ h) (r.mono hk hF)
  | ins h r => exact .ins (ha _ h) (r.mono hk hF)
end

structure Rel (K : PySem.W.Frag) (G : Gh) (μ : Store) (H : Hp) : Prop where
  dom : ∀ a, G.F a → ∃ o, H a = some o ∧ Mut (some o)
  len : G.am.length = μ.length
  cell : ∀ (c : Nat) (d : D), μ[c]? = some (some d) → ∃ a, G.am[c]? = some (some a) ∧ ¬ G.F a ∧ RepAt K G.F H a d
  live : ∀ (c : Nat) (a : Addr), G.am[c]? = some (some a) → ∃ d, μ[c]? = some (some d)
  inj : ∀ (c c' : Nat) (a : Addr), G.am[c]? = some (some a) → G.am[c']? = some (some a) → c = c'

/-- what a step leaves -/
structure Ext (G : Gh) (H : Hp) (G' : Gh) (H' : Hp) : Prop where
  keep : ∀ a o, H a = some o → some a ∉ G.am → H' a = some o
  F : ∀ a, G.F a → G'.F a
  newF : ∀ a, G'.F a → G.F a ∨ H a = none ∨ some a ∈ G.am
  newA : ∀ a, some a ∈ G'.am → some a ∈ G.am ∨ H a = none
  back : ∀ (c : Nat) (a : Addr), c < G.am.length → G'.am[c]? = some (some a) → G.am[c]? = some (some a)
  le : G.am.length ≤ G'.am.length
  ex : G'.ex = G.ex
  kept : ∀ a o, H a = some o → ∃ o', H' a = some o'

section
variable {K : PySem.W.Frag} {G G1 G2 : Gh} {H H1 H2 : Hp} {μ μ1 : Store}
theorem Ext.refl : Ext G H G H := ⟨fun _ _ h _ => h, fun _ h => h, fun _ h => .inl h, fun _ h => .inl h, fun _ _ _ h => h, Nat.le_refl _, rfl, fun _ o h => ⟨o, h⟩⟩
theorem Ext.trans (x : Ext G H G1 H1) (y : Ext G1 H1 G2 H2) : Ext G H G2 H2 where
  keep := fun a o h n => y.keep a o (x.keep a o h n) fun z => by
    rcases x.newA a z with q | q
    · exact n q
    · rw [q] at h; cases h
  F := fun a h => y.F a (x.F a h)
  newF := fun a h => by
    rcases y.newF a h with q | q | q
    · exact x.newF a q
    · cases e : H a with
      | none => exact .inr (.inl rfl)
      | some o =>
        obtain ⟨o', e'⟩ := x.kept a o e
        rw [q] at e'; cases e'
    · rcases x.newA a q with q | q
      · exact .inr (.inr q)
      · exact .inr (.inl q)
  newA := fun a h => by
    rcases y.newA a h with q | q
    · exact x.newA a q
    · cases e : H a with
      | none => exact .inr rfl
      | some o =>
        obtain ⟨o', e'⟩ := x.kept a o e
        rw [q] at e'; cases e'
  back := fun c a hc h => x.back c a hc (y.back c a (Nat.lt_of_lt_of_le hc x.le) h)
  le := Nat.le_trans x.le y.le
  ex := y.ex.trans x.ex
  kept := fun a o h => by
    obtain ⟨o', e⟩ := x.kept a o h
    exact y.kept a o' e

theorem mem_am {l : List (Option Addr)} {a : Addr} (h : some a ∈ l) : ∃ c : Nat, l[c]? = some (some a) := by
  obtain ⟨c, hc, e⟩ := List.mem_iff_getElem.mp h
  exact ⟨c, by rw [List.getElem?_eq_getElem hc, e]⟩
theorem Rel.at_am (R : Rel K G μ H) {a : Addr} (h : some a ∈ G.am) : ¬ G.F a ∧ ∃ o, H a = some o ∧ Mut (some o) := by
  obtain ⟨c, e⟩ := mem_am h
  obtain ⟨d, ed⟩ := R.live c a e
  obtain ⟨a', e', nf, ra⟩ := R.cell c d ed
  rw [e] at e'
  cases e'
  exact ⟨nf, ra.mut⟩
theorem Rel.hk (R : Rel K G μ H) (x : Ext G H G1 H1) : ∀ a o, H a = some o → (G.F a ∨ ¬ Mut (some o)) → H1 a = some o := fun a o h q =>
  x.keep a o h fun m => by
    obtain ⟨nf, o', e, mu⟩ := R.at_am m
    rw [h] at e
    cases e
    rcases q with q | q
    · exact nf q
    · exact q mu
theorem Rel.rep (R : Rel K G μ H) (x : Ext G H G1 H1) {d : D} {v : V} (h : Rep K G.F H d v) : Rep K G1.F H1 d v := h.mono (R.hk x) x.F
theorem Rel.repL (R : Rel K G μ H) (x : Ext G H G1 H1) {d : List D} {v : List V} (h : RepL K G.F H d v) : RepL K G1.F H1 d v := h.mono (R.hk x) x.F

def ExcAt (K : PySem.W.Frag) (G : Gh) (H : Hp) (e : Exc) (d : Option Addr) : Prop :=
  (e.fs = [] ∧ e.vs = [] ∧ d = none) ∨ ∃ a fs, d = some a ∧ H a = some (.xd fs) ∧ fs.map (·.1) = e.fs ∧ RepL K G.F H e.vs (fs.map (·.2))
theorem Rel.exc (R : Rel K G μ H) (x : Ext G H G1 H1) {e : Exc} {d : Option Addr} (h : ExcAt K G H e d) : ExcAt K G1 H1 e d := by
  rcases h with h | ⟨a, fs, e1, e2, e3, e4⟩
  · exact .inl h
  · exact .inr ⟨a, fs, e1, R.hk x _ _ e2 (.inr fun z => z), e3, R.repL x e4⟩
/-- what a slot holds -/
def SlRep (K : PySem.W.Frag) (G : Gh) (H : Hp) : Sl → V → Prop
  | .v d, v => Rep K G.F H d v
  | .c n, v => n < G.am.length ∧ ∀ a, G.am[n]? = some (some a) → v = .ref a
  | .x e, v => ∃ a d, G.ex = some (a, e.cls, d) ∧ v = .ref a ∧ ExcAt K G H e d
theorem Rel.sl (R : Rel K G μ H) (x : Ext G H G1 H1) : ∀ {s : Sl} {v : V}, SlRep K G H s v → SlRep K G1 H1 s v
  | .v _, _, h => R.rep x h
  | .c _, _, ⟨h1, h2⟩ => ⟨Nat.lt_of_lt_of_le h1 x.le, fun a e => h2 a (x.back _ a h1 e)⟩
  | .x _, _, ⟨a, d, e1, e2, e3⟩ => ⟨a, d, by rw [x.ex]; exact e1, e2, R.exc x e3⟩
abbrev SlReps (K : PySem.W.Frag) (G : Gh) (H : Hp) : List Sl → List V → Prop := Paired (SlRep K G H)
theorem Rel.sls (R : Rel K G μ H) (x : Ext G H G1 H1) {ss : List Sl} {vs : List V} (h : SlReps K G H ss vs) : SlReps K G1 H1 ss vs := Paired.mapP h fun _ _ q => R.sl x q
structure EnvOk (K : PySem.W.Frag) (G : Gh) (H : Hp) (ρ : Env) (σ : L2.St) : Prop where
  len : ρ.length = σ.length
  has : ∀ (i : Nat) (s : Sl), ρ[i]? = some (some s) → ∃ v, σ[i]? = some (some v) ∧ SlRep K G H s v
theorem Rel.env (R : Rel K G μ H) (x : Ext G H G1 H1) {ρ : Env} {σ : L2.St} (h : EnvOk K G H ρ σ) : EnvOk K G1 H1 ρ σ :=
  ⟨h.len, fun i s e => by
    obtain ⟨v, e1, r⟩ := h.has i s e
    exact ⟨v, e1, R.sl x r⟩⟩
theorem EnvOk.set {ρ : Env} {σ : L2.St} {s : Sl} {v : V} (h : EnvOk K G H ρ σ) (r : SlRep K G H s v) (i : Nat) : EnvOk K G H (ρ.set i (some s)) (σ.set i (some v)) := by
  refine ⟨by simpa using h.len, fun j t e => ?_⟩
  by_cases hj : i = j
  · subst hj
    by_cases hl : i < ρ.length
    · rw [List.getElem?_set_self hl] at e
      cases e
      exact ⟨v, by rw [List.getElem?_set_self (h.len ▸ hl)], r⟩
    · rw [List.getElem?_eq_none (by simpa using hl)] at e
      cases e
  · rw [List.getElem?_set_ne hj] at e
    obtain ⟨w, e1, r1⟩ := h.has j t e
    exact ⟨w, by rw [List.getElem?_set_ne hj]; exact e1, r1⟩
theorem EnvOk.unset {ρ : Env} {σ : L2.St} (h : EnvOk K G H ρ σ) (i : Nat) : EnvOk K G H (ρ.set i none) (σ.set i none) := by
  refine ⟨by simpa using h.len, fun j t e => ?_⟩
  by_cases hj : i = j
  · subst hj
    by_cases hl : i < ρ.length
    · rw [List.getElem?_set_self hl] at e; cases e
    · rw [List.getElem?_eq_none (by simpa using hl)] at e; cases e
  · rw [List.getElem?_set_ne hj] at e
    obtain ⟨w, e1, r1⟩ := h.has j t e
    exact ⟨w, by rw [List.getElem?_set_ne hj]; exact e1, r1⟩
/-- forgetting on our side -/
theorem EnvOk.drop {ρ : Env} {σ : L2.St} (h : EnvOk K G H ρ σ) (i : Nat) : EnvOk K G H (ρ.set i none) σ := by
  refine ⟨by simpa using h.len, fun j t e => ?_⟩
  by_cases hj : i = j
  · subst hj
    by_cases hl : i < ρ.length
    · rw [List.getElem?_set_self hl] at e; cases e
    · rw [List.getElem?_eq_none (by simpa using hl)] at e; cases e
  · rw [List.getElem?_set_ne hj] at e
    exact h.has j t e
end

/-! ### what a slot's content is -/
def Sl.get (μ : Store) : Sl → Option D
  | .v d => some d
  | .c n => (μ[n]?).join
  | .x _ => none
section
variable {K : PySem.W.Frag} {G G1 : Gh} {H H1 : Hp} {μ : Store}
/-- the content, read: it stands at an address, or it is laid for good -/
inductive Now (K : PySem.W.Frag) (F : Addr → Prop) (H : Hp) : D → V → Prop
  | rep {d : D} {v : V} (h : Rep K F H d v) : Now K F H d v
  | at_ {d : D} {a : Addr} (h : RepAt K F H a d) : Now K F H d (.ref a)
theorem Rel.now (R : Rel K G μ H) {s : Sl} {v : V} {d : D} (h : SlRep K G H s v) (e : s.get μ = some d) : Now K G.F H d v := by
  cases s with
  | v d' => cases e; exact .rep h
  | c n =>
    have e' : μ[n]? = some (some d) := by
      have e1 : (μ[n]?).join = some d := e
      cases q : μ[n]? with
      | none => rw [q] at e1; cases e1
      | some o => rw [q] at e1; exact congrArg some e1
    obtain ⟨a, ea, _, ra⟩ := R.cell n d e'
    rw [h.2 a ea]
    exact .at_ ra
  | x _ => cases e
theorem Now.lst {F : Addr → Prop} {ds : List D} {v : V} (h : Now K F H (.lst ds) v) : ∃ a xs, v = .ref a ∧ H a = some (.lst xs) ∧ RepL K F H ds xs := by
  cases h with
  | rep h => cases h with
    | lst f h r => exact ⟨_, _, rfl, h, r⟩
  | at_ h => cases h with
    | lst h r => exact ⟨_, _, rfl, h, r⟩
theorem Now.sql {F : Addr → Prop} {ds : List D} {v : V} (h : Now K F H (.lst ds) v) : ∃ a xs, v = .ref a ∧ SqL K H a xs ∧ RepL K F H ds xs := by
  obtain ⟨a, xs, e, h, r⟩ := h.lst
  exact ⟨a, xs, e, .of h, r⟩
theorem Now.fz {F : Addr → Prop} {ds : List D} {v : V} (h : Now K F H (.fz ds) v) : ∃ a xs, v = .ref a ∧ SqL K H a xs ∧ RepL K F H ds xs := by
  cases h with
  | rep h => cases h with
    | fz h r => exact ⟨_, _, rfl, h.sq, r⟩
  | at_ h => cases h
theorem Now.tup {F : Addr → Prop} {ds : List D} {v : V} (h : Now K F H (.tup ds) v) : ∃ a xs, v = .ref a ∧ TupAt K H a xs ∧ RepL K F H ds xs := by
  cases h with
  | rep h => cases h with
    | tup h r => exact ⟨_, _, rfl, h, r⟩
  | at_ h => cases h
theorem Now.int {F : Addr → Prop} {i : Int} {v : V} (h : Now K F H (.int i) v) : v = .int i := by
  cases h with
  | rep h => cases h; rfl
  | at_ h => cases h
theorem Now.bl {F : Addr → Prop} {i : Bool} {v : V} (h : Now K F H (.bl i) v) : v = .bl i := by
  cases h with
  | rep h => cases h; rfl
  | at_ h => cases h
theorem Now.str {F : Addr → Prop} {i : Str} {v : V} (h : Now K F H (.str i) v) : v = .str i := by
  cases h with
  | rep h => cases h; rfl
  | at_ h => cases h
theorem Now.non {F : Addr → Prop} {v : V} (h : Now K F H .non v) : v = .non := by
  cases h with
  | rep h => cases h; rfl
  | at_ h => cases h
end

/-! ### what comes of an expression -/
def Post {α β : Type} (Rp : Gh → Hp → α → β → Prop) (K : PySem.W.Frag) (W : WX) (σ : L2.St) (G : Gh) (H : Hp) (o : Out α) (Q : β → Hp → Prop) : Prop :=
  match o with
  | .stuck => False
  | .ok a μ => ∀ b G' H', Ext G H G' H' → Rel K G' μ H' → Rp G' H' a b → Q b H'
  | .exc e μ => ∀ d G' H', Ext G H G' H' → Rel K G' μ H' → ExcAt K G' H' e d → W (.ref (He.ga K e.cls)) d σ H'
section
variable {K : PySem.W.Frag} {G G1 : Gh} {H H1 : Hp} {μ : Store} {W : WX} {σ : L2.St} {α β α' β' : Type} {Rp : Gh → Hp → α → β → Prop} {Rp' : Gh → Hp → α' → β' → Prop}
theorem Post.shift {o : Out α} {Q : β → Hp → Prop} (h : Post Rp K W σ G H o Q) (x : Ext G H G1 H1) : Post Rp K W σ G1 H1 o Q := by
  cases o with
  | stuck => exact h
  | ok a μ => exact fun b G' H' y => h b G' H' (x.trans y)
  | exc e μ => exact fun d G' H' y => h d G' H' (x.trans y)
theorem Post.bind {o : Out α} {k : α → Store → Out α'} {Q : β' → Hp → Prop} {Q1 : β → Hp → Prop} (h : Post Rp' K W σ G H (o.bind k) Q)
    (hk : ∀ a μ1 b G1 H1, Ext G H G1 H1 → Rel K G1 μ1 H1 → Rp G1 H1 a b → Post Rp' K W σ G1 H1 (k a μ1) Q → Q1 b H1) : Post Rp K W σ G H o Q1 := by
  cases o with
  | stuck => exact h
  | ok a μ => exact fun b G' H' x R r => hk a μ b G' H' x R r (Post.shift h x)
  | exc e μ => exact h
end
theorem Post.bindE {K : PySem.W.Frag} {G : Gh} {H : Hp} {W : WX} {σ : L2.St} {α β α' β' : Type} {Rp : Gh → Hp → α → β → Prop} {Rp' : Gh → Hp → α' → β' → Prop} {o : Out α} {k : α → Store → Out α'} {Q : β' → Hp → Prop} {Q1 : β → Hp → Prop} (h : Post Rp' K W σ G H (o.bind k) Q)
    (hk : ∀ a μ1 b G1 H1, Ext G H G1 H1 → Rel K G1 μ1 H1 → Rp G1 H1 a b → Post Rp' K W σ G1 H1 (k a μ1) Q → o = .ok a μ1 → Q1 b H1) : Post Rp K W σ G H o Q1 := by
  cases o with
  | stuck => exact h
  | ok a μ => exact fun b G' H' x R r => hk a μ b G' H' x R r (Post.shift h x) rfl
  | exc e μ => exact h
structure Here (K : PySem.W.Frag) (P : Option (Addr × Str × Option Addr) → Prop) (G : Gh) (μ : Store) (ρ : Env) (σ : L2.St) (H : Hp) : Prop where
  p : P G.ex
  rel : Rel K G μ H
  env : EnvOk K G H ρ σ
theorem Here.step {K : PySem.W.Frag} {P : Option (Addr × Str × Option Addr) → Prop} {G G1 : Gh} {μ μ1 : Store} {ρ : Env} {σ : L2.St} {H H1 : Hp} (h : Here K P G μ ρ σ H) (x : Ext G H G1 H1) (R : Rel K G1 μ1 H1) : Here K P G1 μ1 ρ σ H1 :=
  ⟨by rw [x.ex]; exact h.p, R, h.rel.env x h.env⟩
abbrev PX := Option (Addr × Str × Option Addr) → Prop
abbrev FE := Env → Store → Out Sl
abbrev FT := Env → Store → Out Bool
abbrev FA := Env → Store → Out (List Sl)
def TD (K : PySem.W.Frag) (P : PX) (W : WX) (f : FE) : TE := fun σ H Q => ∃ G μ ρ, Here K P G μ ρ σ H ∧ Post (SlRep K) K W σ G H (f ρ μ) Q
def TDT (K : PySem.W.Frag) (P : PX) (W : WX) (f : FT) : TT := fun σ H Q => ∃ G μ ρ, Here K P G μ ρ σ H ∧ Post (fun _ _ a b => a = b) K W σ G H (f ρ μ) Q
def TDA (K : PySem.W.Frag) (P : PX) (W : WX) (f : FA) : TA := fun σ H Q => ∃ G μ ρ, Here K P G μ ρ σ H ∧ Post (SlReps K) K W σ G H (f ρ μ) Q
abbrev DE (X : Cx) (P : PX) (W : WX) (e : Expr) (f : FE) : Prop := PE X e (TD X.K P W f)
abbrev DT (X : Cx) (P : PX) (W : WX) (e : Expr) (f : FT) : Prop := PT X e (TDT X.K P W f)
abbrev DW (X : Cx) (P : PX) (W : WX) (e : Expr) (f : FT) : Prop := PW X e (TDT X.K P W f)
structure DA (X : Cx) (P : PX) (W : WX) (es : List Expr) (f : FA) : Prop where
  pa : PA X es (TDA X.K P W f)
  ln : ∀ ρ μ ss μ', f ρ μ = .ok ss μ' → ss.length = es.length

theorem _root_.L2.PE.to {X : Cx} {e : Expr} {t t' : TE} (h : PE X e t) (w : ∀ σ H Q, t' σ H Q → t σ H Q) : PE X e t' := ⟨fun pins s σ H Q I q => h.run pins s σ H Q I (w σ H Q q)⟩
theorem _root_.L2.PT.to {X : Cx} {e : Expr} {t t' : TT} (h : PT X e t) (w : ∀ σ H Q, t' σ H Q → t σ H Q) : PT X e t' := ⟨fun pins s σ H Q I q => h.run pins s σ H Q I (w σ H Q q)⟩
theorem _root_.L2.PW.to {X : Cx} {e : Expr} {t t' : TT} (h : PW X e t) (w : ∀ σ H Q, t' σ H Q → t σ H Q) : PW X e t' := ⟨fun wh pins s σ H Q I q => h.run wh pins s σ H Q I (w σ H Q q)⟩
theorem _root_.L2.PA.to {X : Cx} {e : List Expr} {t t' : TA} (h : PA X e t) (w : ∀ σ H Q, t' σ H Q → t σ H Q) : PA X e t' := ⟨fun pos pins s σ H Q I q => h.run pos pins s σ H Q I (w σ H Q q)⟩
theorem _root_.L2.PC.to {X : Cx} {op : CmpOp} {a b : Expr} {t t' : TE} (h : PC X op a b t) (w : ∀ σ H Q, t' σ H Q → t σ H Q) : PC X op a b t' := ⟨fun pins s σ H Q I q => h.run pins s σ H Q I (w σ H Q q)⟩
theorem _root_.L2.PS.to {X : Cx} {e : Stmt} {t t' : TS} (h : PS X e t) (w : ∀ D σ H, t' D σ H → t D σ H) : PS X e t' := ⟨fun pins s σ H Q I q => h.run pins s σ H Q I (w Q σ H q)⟩
theorem _root_.L2.PSs.to {X : Cx} {e : List Stmt} {t t' : TS} (h : PSs X e t) (w : ∀ D σ H, t' D σ H → t D σ H) : PSs X e t' := ⟨fun pins s σ H Q I q => h.run pins s σ H Q I (w Q σ H q)⟩

/-! ### new objects -/
section
variable {K : PySem.W.Frag} {G G1 : Gh} {H H1 : Hp} {μ : Store} {W : WX} {σ : L2.St}
/-- a new object, laid for good (fz: a tuple needs no F) -/
def Gh.add (G : Gh) (p : Addr) : Gh := { G with F := fun a => G.F a ∨ a = p }
theorem Ext.new {p : Addr} {o : HO} (hp : H p = none) : Ext G H G (upd H p o) where
  keep := fun a u h _ => by rw [upd_ne (ne_of_none h hp)]; exact h
  F := fun _ h => h
  newF := fun _ h => .inl h
  newA := fun _ h => .inl h
  back := fun _ _ _ h => h
  le := Nat.le_refl _
  ex := rfl
  kept := fun a u h => ⟨u, by rw [upd_ne (ne_of_none h hp)]; exact h⟩
theorem Ext.newF' {p : Addr} {o : HO} (hp : H p = none) : Ext G H (G.add p) (upd H p o) where
  keep := fun a u h _ => by rw [upd_ne (ne_of_none h hp)]; exact h
  F := fun _ h => .inl h
  newF := fun a h => by
    rcases h with h | rfl
    · exact .inl h
    · exact .inr (.inl hp)
  newA := fun _ h => .inl h
  back := fun _ _ _ h => h
  le := Nat.le_refl _
  ex := rfl
  kept := fun a u h => ⟨u, by rw [upd_ne (ne_of_none h hp)]; exact h⟩
theorem Rel.cellMono (R : Rel K G μ H) (x : Ext G H G1 H1) {c : Nat} {d : D} {a : Addr} (ha : G.am[c]? = some (some a)) (e : μ[c]? = some (some d)) (k : ∀ o, H a = some o → H1 a = some o) : RepAt K G1.F H1 a d := by
  obtain ⟨a', e', _, ra⟩ := R.cell c d e
  rw [ha] at e'
  cases e'
  exact ra.mono (R.hk x) x.F k
theorem Rel.new (R : Rel K G μ H) {p : Addr} {o : HO} (hp : H p = none) : Rel K G μ (upd H p o) where
  dom := fun a f => by
    obtain ⟨u, h, m⟩ := R.dom a f
    exact ⟨u, by rw [upd_ne (ne_of_none h hp)]; exact h, m⟩
  len := R.len
  cell := fun c d e => by
    obtain ⟨a, ea, nf, ra⟩ := R.cell c d e
    exact ⟨a, ea, nf, R.cellMono (Ext.new hp) ea e fun u h => by rw [upd_ne (ne_of_none h hp)]; exact h⟩
  live := R.live
  inj := R.inj
theorem Rel.newF (R : Rel K G μ H) {p : Addr} {o : HO} (hp : H p = none) (m : Mut (some o)) : Rel K (G.add p) μ (upd H p o) where
  dom := fun a f => by
    rcases f with f | rfl
    · obtain ⟨u, h, m⟩ := R.dom a f
      exact ⟨u, by rw [upd_ne (ne_of_none h hp)]; exact h, m⟩
    · exact ⟨o, upd_same, m⟩
  len := R.len
  cell := fun c d e => by
    obtain ⟨a, ea, nf, ra⟩ := R.cell c d e
    obtain ⟨u, hu, _⟩ := ra.mut
    refine ⟨a, ea, ?_, R.cellMono (Ext.newF' hp) ea e fun u h => by rw [upd_ne (ne_of_none h hp)]; exact h⟩
    rintro (f | rfl)
    · exact nf f
    · rw [hp] at hu; cases hu
  live := R.live
  inj := R.inj
/-- a new cell -/
def Gh.push (G : Gh) (p : Addr) : Gh := { G with am := G.am ++ [some p] }
theorem Ext.cell {p : Addr} {o : HO} (hp : H p = none) : Ext G H (G.push p) (upd H p o) where
  keep := fun a u h _ => by rw [upd_ne (ne_of_none h hp)]; exact h
  F := fun _ h => h
  newF := fun _ h => .inl h
  newA := fun a h => by
    rcases List.mem_append.mp h with h | h
    · exact .inl h
    · have e : a = p := by simpa using h
      rw [e]
      exact .inr hp
  back := fun c a hc h => by
    have h' : (G.am ++ [some p])[c]? = some (some a) := h
    rw [List.getElem?_append_left hc] at h'
    exact h'
  le := by show G.am.length ≤ (G.am ++ [some p]).length; simp
  ex := rfl
  kept := fun a u h => ⟨u, by rw [upd_ne (ne_of_none h hp)]; exact h⟩
theorem Rel.newCell (R : Rel K G μ H) {p : Addr} {o : HO} {d : D} (hp : H p = none) (m : RepAt K (G.push p).F (upd H p o) p d) : Rel K (G.push p) (μ ++ [some d]) (upd H p o) where
  dom := (R.new hp).dom
  len := by show (G.am ++ [some p]).length = _; simp [R.len]
  cell := fun c d' e => by
    by_cases hc : c < μ.length
    · rw [List.getElem?_append_left hc] at e
      obtain ⟨a, ea, nf, ra⟩ := R.cell c d' e
      refine ⟨a, ?_, nf, R.cellMono (Ext.cell hp) ea e fun u h => by rw [upd_ne (ne_of_none h hp)]; exact h⟩
      show (G.am ++ [some p])[c]? = _
      rw [List.getElem?_append_left (by rw [R.len]; exact hc)]
      exact ea
    · have hc' : c = μ.length := by
        have := (List.getElem?_eq_some_iff.mp e).1
        simp at this
        omega
      subst hc'
      rw [List.getElem?_append_right (Nat.le_refl _), Nat.sub_self] at e
      have e' : d = d' := by simpa using e
      subst e'
      refine ⟨p, ?_, ?_, m⟩
      · show (G.am ++ [some p])[μ.length]? = _
        rw [List.getElem?_append_right (by rw [R.len]; exact Nat.le_refl _), R.len, Nat.sub_self]
        rfl
      · intro f
        obtain ⟨u, h, _⟩ := R.dom p f
        rw [hp] at h; cases h
  live := fun c a e => by
    have e' : (G.am ++ [some p])[c]? = some (some a) := e
    by_cases hc : c < G.am.length
    · rw [List.getElem?_append_left hc] at e'
      obtain ⟨d', ed⟩ := R.live c a e'
      exact ⟨d', by rw [List.getElem?_append_left (by rw [← R.len]; exact hc)]; exact ed⟩
    · have hc' : c = μ.length := by
        have h1 := (List.getElem?_eq_some_iff.mp e').1
        have h2 := R.len
        rw [List.length_append, List.length_singleton] at h1
        omega
      subst hc'
      exact ⟨d, by simp⟩
  inj := fun c c' a e e' => by
    have h1 : (G.am ++ [some p])[c]? = some (some a) := e
    have h2 : (G.am ++ [some p])[c']? = some (some a) := e'
    have old : ∀ c, G.am[c]? = some (some a) → a ≠ p := fun c q z => by
      obtain ⟨nf, u, hu, _⟩ := R.at_am (List.mem_of_getElem? q)
      rw [z, hp] at hu; cases hu
    by_cases hc : c < G.am.length <;> by_cases hc' : c' < G.am.length
    · rw [List.getElem?_append_left hc] at h1
      rw [List.getElem?_append_left hc'] at h2
      exact R.inj c c' a h1 h2
    · rw [List.getElem?_append_left hc] at h1
      rw [List.getElem?_append_right (by omega)] at h2
      have h3 := List.mem_of_getElem? h2
      have : a = p := by simpa using h3
      exact absurd this (old c h1)
    · rw [List.getElem?_append_left hc'] at h2
      rw [List.getElem?_append_right (by omega)] at h1
      have h3 := List.mem_of_getElem? h1
      have : a = p := by simpa using h3
      exact absurd this (old c' h2)
    · have l1 := (List.getElem?_eq_some_iff.mp h1).1
      have l2 := (List.getElem?_eq_some_iff.mp h2).1
      simp at l1 l2
      omega
/-- a list is made: b, as a cell -/
def mk (b : Bool) (d : D) (μ : Store) : Out Sl := if b = true then .ok (.c μ.length) (μ ++ [some d]) else .ok (.v d) μ
theorem Post.mkO {b : Bool} {d : D} {Q : VK} {p : Addr} {o : HO} (R : Rel K G μ H) (h : Post (SlRep K) K W σ G H (mk b d μ) Q) (hp : H p = none) (hm : Mut (some o)) (hr : ∀ F : Addr → Prop, (∀ a, G.F a → F a) → RepAt K F (upd H p o) p d) : Q (.ref p) (upd H p o) := by
  cases b with
  | true =>
    refine h (.ref p) (G.push p) (upd H p o) (Ext.cell hp) (R.newCell hp (hr _ fun _ q => q)) ⟨?_, fun a e => ?_⟩
    · show μ.length < (G.am ++ [some p]).length
      simp [R.len]
    · have e' : (G.am ++ [some p])[μ.length]? = some (some a) := e
      rw [← R.len] at e'
      have e2 : p = a := by simpa using e'
      rw [e2]
  | false => exact h (.ref p) (G.add p) (upd H p o) (Ext.newF' hp) (R.newF hp hm) ((hr _ fun _ q => .inl q).rep (.inr rfl))
theorem Post.mkL {b : Bool} {ds : List D} {xs : List V} {Q : VK} {p : Addr} (R : Rel K G μ H) (h : Post (SlRep K) K W σ G H (mk b (.lst ds) μ) Q) (hp : H p = none) (r : RepL K G.F H ds xs) : Q (.ref p) (upd H p (.lst xs)) :=
  h.mkO R hp trivial fun F hF => .lst upd_same (r.mono (fun a o h _ => by rw [upd_ne (ne_of_none h hp)]; exact h) hF)
theorem Post.mkT {ds : List D} {xs : List V} {Q : VK} {p : Addr} (R : Rel K G μ H) (h : Post (SlRep K) K W σ G H (.ok (.v (.tup ds)) μ) Q) (hp : H p = none) (r : RepL K G.F H ds xs) : Q (.ref p) (upd H p (.tup xs)) :=
  h (.ref p) G (upd H p (.tup xs)) (Ext.new hp) (R.new hp) (Rep.tup (.inl upd_same) (r.mono (fun a o h _ => by rw [upd_ne (ne_of_none h hp)]; exact h) fun _ q => q))
/-- a value as it is -/
theorem Post.val {d : D} {v : V} {Q : VK} (R : Rel K G μ H) (h : Post (SlRep K) K W σ G H (.ok (.v d) μ) Q) (r : Rep K G.F H d v) : Q v H := h v G H .refl R r
theorem Post.slot {s : Sl} {v : V} {Q : VK} (R : Rel K G μ H) (h : Post (SlRep K) K W σ G H (.ok s μ) Q) (r : SlRep K G H s v) : Q v H := h v G H .refl R r
end
end DL

namespace DL
open PySem PySem.Spec PyProof.Rows L2

/-! ### expressions -/
def fVar (i : Nat) : FE := fun ρ μ => match ρ[i]? with
  | some (some s) => .ok s μ
  | _ => .stuck
def fC (d : D) : FE := fun _ μ => .ok (.v d) μ
def fTV (f : FT) : FE := fun ρ μ => (f ρ μ).bind fun b μ1 => .ok (.v (.bl b)) μ1
def fTest (f : FE) : FT := fun ρ μ => (f ρ μ).bind fun s μ1 => match s with
  | .v (.bl b) => .ok b μ1
  | _ => .stuck
def fBin (fa fb : FE) (g : Sl → Sl → Store → Out Sl) : FE := fun ρ μ => (fa ρ μ).bind fun s μ1 => (fb ρ μ1).bind fun t μ2 => g s t μ2
def fUn (fa : FE) (g : Sl → Store → Out Sl) : FE := fun ρ μ => (fa ρ μ).bind fun s μ1 => g s μ1
def fAnd (f g : FT) : FT := fun ρ μ => (f ρ μ).bind fun b μ1 => if b = true then g ρ μ1 else .ok false μ1
def fOr (f g : FT) : FT := fun ρ μ => (f ρ μ).bind fun b μ1 => if b = true then .ok true μ1 else g ρ μ1
def fNot (f : FT) : FT := fun ρ μ => (f ρ μ).bind fun b μ1 => .ok (!b) μ1
def fIf (c : FT) (f g : FE) : FE := fun ρ μ => (c ρ μ).bind fun b μ1 => if b = true then f ρ μ1 else g ρ μ1
def fNil : FA := fun _ μ => .ok [] μ
def fCons (f : FE) (g : FA) : FA := fun ρ μ => (f ρ μ).bind fun s μ1 => (g ρ μ1).bind fun ss μ2 => .ok (s :: ss) μ2
def allV : List Sl → Option (List D)
  | [] => some []
  | .v d :: ss => (allV ss).map (d :: ·)
  | _ :: _ => none
def lim : Nat := 16777216
/-- f(..) -/
def fCall (φ : List Sl → Store → Out Sl) (f : FA) : FE := fun ρ μ => (f ρ μ).bind φ

section
variable {X : Cx} {P : PX} {W : WX} {a b c e : Expr} {es : List Expr} {fa fb fc : FE} {ft fu : FT} {fg : FA} {pos p : Pos}
theorem de_var (i : Nat) {x : Str} (hN : X.N[i]? = some x := by rfl) (hv : Vis X.env.scope x := by first | exact Or.inl rfl | exact Or.inr (Or.inl rfl) | exact Or.inr (Or.inr rfl)) (hd : (x == ("__debug__" : Str)) = false := by decide)
    (hcd : (x == ("__classdict__" : Str)) = false := by decide) : DE X P W (.Name x pos) (fVar i) := (pe_var hN hv hd hcd).to fun σ H Q h => by
  obtain ⟨G, μ, ρ, he, h⟩ := h
  unfold fVar at h
  cases q : ρ[i]? with
  | none => rw [q] at h; exact h.elim
  | some o =>
    rw [q] at h
    cases o with
    | none => exact h.elim
    | some s =>
      obtain ⟨v, e1, r⟩ := he.env.has i s q
      exact ⟨v, e1, Post.slot he.rel h r⟩
theorem de_c {d : D} {v : V} (he : PE X e (tC v)) (r : ∀ F H, Rep X.K F H d v) : DE X P W e (fC d) := he.to fun σ H Q h => by
  obtain ⟨G, μ, ρ, he, h⟩ := h
  exact Post.val he.rel h (r _ _)
theorem de_int {i j} : DE X P W (.Constant (.int i) j pos) (fC (.int i)) := de_c pe_int fun _ _ => .int _
theorem de_bl {i j} : DE X P W (.Constant (.bool i) j pos) (fC (.bl i)) := de_c pe_bl fun _ _ => .bl _
theorem de_non {j} : DE X P W (.Constant .none j pos) (fC .non) := de_c pe_non fun _ _ => .non
theorem de_str {i j} : DE X P W (.Constant (.str i) j pos) (fC (.str i)) := de_c pe_str fun _ _ => .str _
/-- a def, a class as a value -/
theorem de_glo {x : Str} (hg : Gl X x) (hm : X.mg x = some (.ref (He.ga X.K x))) (hd : (x == ("__debug__" : Str)) = false := by decide) : DE X P W (.Name x pos) (fC (.glo x)) := de_c (pe_glob (v := .ref _) hg hm rfl hd) fun _ _ => .glo _
/-- an int that the module holds -/
theorem de_gint {x : Str} {i : Int} {t : Tok} (hg : Gl X x) (hm : X.mg x = some (.int i t)) (hd : (x == ("__debug__" : Str)) = false := by decide) : DE X P W (.Name x pos) (fC (.int i)) := de_c (pe_glob (v := .int i) hg hm ⟨_, rfl⟩ hd) fun _ _ => .int _
theorem de_ty {x : Str} {n : String} (hg : Gl X x) (hm : X.mg x = none) (hv : bootBuiltins x = some (.type n)) (hn : x ≠ "__name__" := by decide) (hd : (x == ("__debug__" : Str)) = false := by decide) : DE X P W (.Name x pos) (fC (.ty n)) :=
  de_c (pe_bltn (v := .ty n) hg hm hv rfl hn hd) fun _ _ => .ty _

/-- what a two-place rule asks, from our side -/
def OpD (K : PySem.W.Frag) (r : R2) (g : Sl → Sl → Store → Out Sl) : Prop := ∀ (G : Gh) (μ : Store) (H : Hp) (σ : L2.St) (W : WX) (s t : Sl) (x y : V) (Q : VK), Rel K G μ H → SlRep K G H s x → SlRep K G H t y → Post (SlRep K) K W σ G H (g s t μ) Q → r x y H Q
theorem TD.bin {K : PySem.W.Frag} {r : R2} {g : Sl → Sl → Store → Out Sl} (hg : OpD K r g) : ∀ σ H Q, TD K P W (fBin fa fb g) σ H Q → tOp r (TD K P W fa) (TD K P W fb) σ H Q := by
  rintro σ H Q ⟨G, μ, ρ, he, h⟩
  refine ⟨G, μ, ρ, he, Post.bind h fun s μ1 x G1 H1 x1 R1 r1 h1 => ⟨G1, μ1, ρ, he.step x1 R1, Post.bind h1 fun t μ2 y G2 H2 x2 R2 r2 h2 => ?_⟩⟩
  exact hg G2 μ2 H2 σ W s t x y Q R2 (R1.sl x2 r1) r2 h2
theorem de_bin {op : Operator} {r : R2} {g : Sl → Sl → Store → Out Sl} (ho : OpR X (binaryOp op) r) (hg : OpD X.K r g) (ha : DE X P W a fa) (hb : DE X P W b fb) : DE X P W (.BinOp a op b pos) (fBin fa fb g) := (pe_op ho ha hb).to (TD.bin hg)
theorem de_cmp {op : CmpOp} {r : R2} {g : Sl → Sl → Store → Out Sl} (ho : OpR X (compareOp op) r) (hg : OpD X.K r g) (hm : behindInMarks op b = false) (ha : DE X P W a fa) (hb : DE X P W b fb) : DE X P W (.Compare a [op] [b] pos) (fBin fa fb g) := (pe_cmpR ho ha hb hm).to (TD.bin hg)
/-- an expression that is a bool, as a test -/
theorem TD.test {K : PySem.W.Frag} : ∀ σ H Q, TDT K P W (fTest fa) σ H Q → tTest (TD K P W fa) σ H Q := by
  rintro σ H Q ⟨G, μ, ρ, he, h⟩
  refine ⟨G, μ, ρ, he, Post.bind h fun s μ1 x G1 H1 x1 R1 r1 h1 => ?_⟩
  match s with
  | .v (.bl k) =>
    cases r1
    exact ⟨k, rfl, h1 k G1 H1 .refl R1 rfl⟩
theorem dt_val (h : DE X P W e fa) (he : ∀ whole, isTrue e X.env whole = (do let v ← whole; standAt e.pos; holding [v] (truthy v)) := by intro _; rfl) : DT X P W e (fTest fa) := (pt_val h he).to fun σ H Q q => TD.test σ H Q q
theorem tTest_mono {t t' : TE} (h : ∀ σ H Q, t' σ H Q → t σ H Q) : ∀ σ H Q, tTest t' σ H Q → tTest t σ H Q := fun σ H Q q => h _ _ _ q
theorem dt_cmp {op : CmpOp} {r : R2} {g : Sl → Sl → Store → Out Sl} (ho : OpR X (compareOp op) r) (hg : OpD X.K r g) (hm : behindInMarks op b = false) (ha : DE X P W a fa) (hb : DE X P W b fb) : DT X P W (.Compare a [op] [b] pos) (fTest (fBin fa fb g)) :=
  (pt_cmpR ho ha hb hm).to fun σ H Q q => TD.bin hg _ _ _ (TD.test σ H Q q)
/-- a < b < c -/
def fChain (fa fb fc : FE) (g g' : Sl → Sl → Store → Out Sl) : FE := fun ρ μ => (fa ρ μ).bind fun s μ1 => (fb ρ μ1).bind fun t μ2 => (g s t μ2).bind fun z μ3 => match z with
  | .v (.bl true) => (fc ρ μ3).bind fun u μ4 => g' t u μ4
  | .v (.bl false) => .ok (.v (.bl false)) μ3
  | _ => .stuck
theorem TD.chain {K : PySem.W.Frag} {r r' : R2} {g g' : Sl → Sl → Store → Out Sl} (hg : OpD K r g) (hg' : OpD K r' g') : ∀ σ H Q, TD K P W (fChain fa fb fc g g') σ H Q → tChain r r' (TD K P W fa) (TD K P W fb) (TD K P W fc) σ H Q := by
  rintro σ H Q ⟨G, μ, ρ, he, h⟩
  refine ⟨G, μ, ρ, he, Post.bind h fun s μ1 x G1 H1 x1 R1 r1 h1 => ⟨G1, μ1, ρ, he.step x1 R1, Post.bind h1 fun t μ2 y G2 H2 x2 R2 r2 h2 => ?_⟩⟩
  refine hg G2 μ2 H2 σ W s t x y _ R2 (R1.sl x2 r1) r2 (Post.bind h2 fun z μ3 w G3 H3 x3 R3 r3 h3 => ?_)
  match z with
  | .v (.bl true) =>
    cases r3
    refine ⟨true, rfl, ?_⟩
    rw [if_pos rfl]
    refine ⟨G3, μ3, ρ, ((he.step x1 R1).step x2 R2).step x3 R3, Post.bind h3 fun u μ4 v G4 H4 x4 R4 r4 h4 => ?_⟩
    exact hg' G4 μ4 H4 σ W t u y v Q R4 (R3.sl x4 (R2.sl x3 r2)) r4 h4
  | .v (.bl false) =>
    cases r3
    refine ⟨false, rfl, ?_⟩
    rw [if_neg Bool.false_ne_true]
    exact Post.val R3 h3 (.bl false)
theorem de_chain {op op' : CmpOp} {r r' : R2} {g g' : Sl → Sl → Store → Out Sl} (ho : OpR X (compareOp op) r) (hg : OpD X.K r g) (ho' : OpR X (compareOp op') r') (hg' : OpD X.K r' g') (ha : DE X P W a fa) (hb : DE X P W b fb) (hc : DE X P W c fc)
    (hm : lastMarks [op, op'] [b, c] = false := by with_unfolding_all rfl) : DE X P W (.Compare a [op, op'] [b, c] pos) (fChain fa fb fc g g') := (pe_chain ho ho' ha hb hc hm).to (TD.chain hg hg')
theorem dt_chain {op op' : CmpOp} {r r' : R2} {g g' : Sl → Sl → Store → Out Sl} (ho : OpR X (compareOp op) r) (hg : OpD X.K r g) (ho' : OpR X (compareOp op') r') (hg' : OpD X.K r' g') (ha : DE X P W a fa) (hb : DE X P W b fb) (hc : DE X P W c fc)
    (hm : lastMarks [op, op'] [b, c] = false := by with_unfolding_all rfl) : DT X P W (.Compare a [op, op'] [b, c] pos) (fTest (fChain fa fb fc g g')) :=
  (pt_chain ho ho' ha hb hc hm).to fun σ H Q q => TD.chain hg hg' _ _ _ (TD.test σ H Q q)

/-! ### and, or, not, if -/
theorem TDT.and {K : PySem.W.Frag} : ∀ σ H Q, TDT K P W (fAnd ft fu) σ H Q → tAnd (TDT K P W ft) (TDT K P W fu) σ H Q := by
  rintro σ H Q ⟨G, μ, ρ, he, h⟩
  refine ⟨G, μ, ρ, he, Post.bind h fun s μ1 x G1 H1 x1 R1 r1 h1 => ?_⟩
  subst r1
  cases s with
  | true =>
    rw [if_pos rfl]
    rw [if_pos rfl] at h1
    exact ⟨G1, μ1, ρ, he.step x1 R1, h1⟩
  | false =>
    rw [if_neg Bool.false_ne_true]
    rw [if_neg Bool.false_ne_true] at h1
    exact h1 false G1 H1 .refl R1 rfl
theorem TDT.or {K : PySem.W.Frag} : ∀ σ H Q, TDT K P W (fOr ft fu) σ H Q → tOr (TDT K P W ft) (TDT K P W fu) σ H Q := by
  rintro σ H Q ⟨G, μ, ρ, he, h⟩
  refine ⟨G, μ, ρ, he, Post.bind h fun s μ1 x G1 H1 x1 R1 r1 h1 => ?_⟩
  subst r1
  cases s with
  | true =>
    rw [if_pos rfl]
    rw [if_pos rfl] at h1
    exact h1 true G1 H1 .refl R1 rfl
  | false =>
    rw [if_neg Bool.false_ne_true]
    rw [if_neg Bool.false_ne_true] at h1
    exact ⟨G1, μ1, ρ, he.step x1 R1, h1⟩
theorem dw_and1 (ha : DT X P W a ft) : DW X P W (.BoolOp .And [a] pos) ft := pw_and1 ha
theorem dw_or1 (ha : DT X P W a ft) : DW X P W (.BoolOp .Or [a] pos) ft := pw_or1 ha
theorem dw_and (ha : DT X P W a ft) (hb : DW X P W (.BoolOp .And (b :: es) pos) fu) : DW X P W (.BoolOp .And (a :: b :: es) pos) (fAnd ft fu) := (pw_and ha hb).to TDT.and
theorem dw_or (ha : DT X P W a ft) (hb : DW X P W (.BoolOp .Or (b :: es) pos) fu) : DW X P W (.BoolOp .Or (a :: b :: es) pos) (fOr ft fu) := (pw_or ha hb).to TDT.or
theorem dt_w (h : DW X P W e ft) : DT X P W e ft := h.pt
theorem dt_not (h : DT X P W a ft) : DT X P W (.UnaryOp .Not a pos) (fNot ft) := (pt_not h).to fun σ H Q q => by
  obtain ⟨G, μ, ρ, he, h⟩ := q
  refine ⟨G, μ, ρ, he, Post.bind h fun s μ1 x G1 H1 x1 R1 r1 h1 => ?_⟩
  subst r1
  exact h1 _ G1 H1 .refl R1 rfl
/-- .. as values: bools -/
theorem de_one {op} (h : DE X P W a fa) : DE X P W (.BoolOp op [a] pos) fa := pe_one h
def fAndV (f g : FE) : FE := fun ρ μ => (f ρ μ).bind fun s μ1 => match s with
  | .v (.bl true) => g ρ μ1
  | .v (.bl false) => .ok (.v (.bl false)) μ1
  | _ => .stuck
def fOrV (f g : FE) : FE := fun ρ μ => (f ρ μ).bind fun s μ1 => match s with
  | .v (.bl false) => g ρ μ1
  | .v (.bl true) => .ok (.v (.bl true)) μ1
  | _ => .stuck
def gNot (s : Sl) (μ : Store) : Out Sl := match s with
  | .v (.bl b) => .ok (.v (.bl (!b))) μ
  | _ => .stuck
theorem de_and (ha : DE X P W a fa) (hb : DE X P W (.BoolOp .And (b :: es) pos) fb) : DE X P W (.BoolOp .And (a :: b :: es) pos) (fAndV fa fb) := (pe_and ha hb).to fun σ H Q q => by
  obtain ⟨G, μ, ρ, he, h⟩ := q
  refine ⟨G, μ, ρ, he, Post.bind h fun s μ1 x G1 H1 x1 R1 r1 h1 => ?_⟩
  match s with
  | .v (.bl true) => cases r1; exact ⟨true, rfl, by rw [if_pos rfl]; exact ⟨G1, μ1, ρ, he.step x1 R1, h1⟩⟩
  | .v (.bl false) => cases r1; exact ⟨false, rfl, by rw [if_neg Bool.false_ne_true]; exact Post.val R1 h1 (.bl false)⟩
theorem de_or (ha : DE X P W a fa) (hb : DE X P W (.BoolOp .Or (b :: es) pos) fb) : DE X P W (.BoolOp .Or (a :: b :: es) pos) (fOrV fa fb) := (pe_or ha hb).to fun σ H Q q => by
  obtain ⟨G, μ, ρ, he, h⟩ := q
  refine ⟨G, μ, ρ, he, Post.bind h fun s μ1 x G1 H1 x1 R1 r1 h1 => ?_⟩
  match s with
  | .v (.bl true) => cases r1; exact ⟨true, rfl, by rw [if_pos rfl]; exact Post.val R1 h1 (.bl true)⟩
  | .v (.bl false) => cases r1; exact ⟨false, rfl, by rw [if_neg Bool.false_ne_true]; exact ⟨G1, μ1, ρ, he.step x1 R1, h1⟩⟩
theorem de_not (ha : DE X P W a fa) : DE X P W (.UnaryOp .Not a pos) (fUn fa gNot) := (pe_not ha).to fun σ H Q q => by
  obtain ⟨G, μ, ρ, he, h⟩ := q
  refine ⟨G, μ, ρ, he, Post.bind h fun s μ1 x G1 H1 x1 R1 r1 h1 => ?_⟩
  match s with
  | .v (.bl k) => cases r1; exact ⟨k, rfl, Post.val R1 h1 (.bl _)⟩
theorem de_if (hc : DT X P W c ft) (ha : DE X P W a fa) (hb : DE X P W b fb) : DE X P W (.IfExp c a b pos) (fIf ft fa fb) := (pe_ifExp hc ha hb).to fun σ H Q q => by
  obtain ⟨G, μ, ρ, he, h⟩ := q
  refine ⟨G, μ, ρ, he, Post.bind h fun s μ1 x G1 H1 x1 R1 r1 h1 => ?_⟩
  subst r1
  cases s with
  | true =>
    rw [if_pos rfl]
    rw [if_pos rfl] at h1
    exact ⟨G1, μ1, ρ, he.step x1 R1, h1⟩
  | false =>
    rw [if_neg Bool.false_ne_true]
    rw [if_neg Bool.false_ne_true] at h1
    exact ⟨G1, μ1, ρ, he.step x1 R1, h1⟩

/-! ### lists of arguments, displays -/
theorem da_nil : DA X P W [] fNil := ⟨pa_nil.to fun σ H Q q => by
  obtain ⟨G, μ, ρ, he, h⟩ := q
  exact h [] G H .refl he.rel .nil, fun _ _ _ _ e => by cases e; rfl⟩
theorem da_cons (ha : DE X P W e fa) (hr : DA X P W es fg) (hs : starEach (e :: es) X.env = (false, eval e X.env) :: starEach es X.env := by rfl) : DA X P W (e :: es) (fCons fa fg) := by
  refine ⟨(pa_cons ha hr.pa hs).to fun σ H Q q => ?_, fun ρ μ ss μ' h => ?_⟩
  · obtain ⟨G, μ, ρ, he, h⟩ := q
    refine ⟨G, μ, ρ, he, Post.bind h fun s μ1 x G1 H1 x1 R1 r1 h1 => ⟨G1, μ1, ρ, he.step x1 R1, Post.bind h1 fun t μ2 y G2 H2 x2 R2 r2 h2 => ?_⟩⟩
    exact h2 _ G2 H2 .refl R2 (.cons (R1.sl x2 r1) r2)
  · obtain ⟨s, μ1, _, h1⟩ := Out.bind_ok h
    obtain ⟨t, μ2, h2, h3⟩ := Out.bind_ok h1
    cases h3
    rw [List.length_cons, List.length_cons, hr.ln _ _ _ _ h2]
theorem allV_rep {K : PySem.W.Frag} {G : Gh} {H : Hp} : ∀ {ss : List Sl} {vs : List V} {ds : List D}, SlReps K G H ss vs → allV ss = some ds → RepL K G.F H ds vs
  | [], _, _, .nil, e => by cases e; exact .nil
  | .v d :: ss, _, _, .cons h t, e => by
    have e' : (allV ss).map (d :: ·) = some _ := e
    cases q : allV ss with
    | none => rw [q] at e'; cases e'
    | some ds => rw [q] at e'; cases e'; exact .cons h (allV_rep t q)
  | .c _ :: _, _, _, _, e => by cases e
  | .x _ :: _, _, _, _, e => by cases e
theorem sizeLine_lim : sizeLine = lim := by rw [sizeLine_eq]; rfl
def fLst (b : Bool) (f : FA) : FE := fun ρ μ => (f ρ μ).bind fun ss μ1 => match allV ss with
  | some ds => mk b (.lst ds) μ1
  | none => .stuck
theorem de_lst (b : Bool) (h : DA X P W es fg) (hl : es.length ≤ lim := by decide) : DE X P W (.List es pos) (fLst b fg) := (pe_lst h.pa).to fun σ H Q q => by
  have hln := h.ln
  obtain ⟨G, μ, ρ, he, h⟩ := q
  refine ⟨G, μ, ρ, he, Post.bindE h fun ss μ1 xs G1 H1 x1 R1 r1 h1 e0 => ?_⟩
  have e1 := hln _ _ _ _ e0
  cases q : allV ss with
  | none => rw [q] at h1; exact h1.elim
  | some ds =>
    rw [q] at h1
    have r := allV_rep r1 q
    exact ⟨by rw [← r1.length, e1, sizeLine_lim]; exact hl, fun p hp => Post.mkL R1 h1 hp r⟩
def fTup (f : FA) : FE := fun ρ μ => (f ρ μ).bind fun ss μ1 => match allV ss with
  | some ds => .ok (.v (.tup ds)) μ1
  | none => .stuck
theorem de_tup {x1} (h : DA X P W es fg) (hl : es.length ≤ lim := by decide) : DE X P W (.Tuple es x1 pos) (fTup fg) := (pe_tup h.pa).to fun σ H Q q => by
  have hln := h.ln
  obtain ⟨G, μ, ρ, he, h⟩ := q
  refine ⟨G, μ, ρ, he, Post.bindE h fun ss μ1 xs G1 H1 x1 R1 r1 h1 e0 => ?_⟩
  have e1 := hln _ _ _ _ e0
  cases q : allV ss with
  | none => rw [q] at h1; exact h1.elim
  | some ds =>
    rw [q] at h1
    have r := allV_rep r1 q
    exact ⟨by rw [← r1.length, e1, sizeLine_lim]; exact hl, fun p hp => Post.mkT R1 h1 hp r⟩
end
end DL

namespace DL
open PySem PySem.Spec PyProof.Rows L2

/-! ### data as the library's data -/
mutual
def D.py : D → PyData
  | .non => .none
  | .bl b => .bool b
  | .int i => .int i
  | .str x => .str x
  | .lst ds => .list (D.pyL ds)
  | .fz ds => .list (D.pyL ds)
  | .tup ds => .tuple (D.pyL ds)
  | .ty _ => .dict []
  | .glo _ => .dict []
  | .dK _ _ => .dict []
  | .dT _ _ => .dict []
  | .ins _ _ _ => .dict []
def D.pyL : List D → List PyData
  | [] => []
  | d :: ds => D.py d :: D.pyL ds
end
section
variable {K : PySem.W.Frag} {F : Addr → Prop} {H : Hp}
mutual
theorem Rep.dp : ∀ {d : D} {v : V}, Rep K F H d v → d.py.canLay0 = true → Dp K H v d.py
  | _, _, .non, _ => by simp only [D.py]; exact .non
  | _, _, .bl b, _ => by simp only [D.py]; exact .bl b
  | _, _, .int i, _ => by simp only [D.py]; exact .int i
  | _, _, .str x, _ => by simp only [D.py]; exact .str x
  | _, _, .ty _, h => by simp [D.py, PyData.canLay0] at h
  | _, _, .glo _, h => by simp [D.py, PyData.canLay0] at h
  | _, _, .lst f h r, c => by
    simp only [D.py] at c ⊢
    exact .lst (.of h) (RepL.dp r (by simpa only [PyData.canLay0] using c))
  | _, _, .fz h r, c => by
    simp only [D.py] at c ⊢
    exact .lst h.sq (RepL.dp r (by simpa only [PyData.canLay0] using c))
  | _, _, .tup h r, c => by
    simp only [D.py] at c ⊢
    exact .tup h.sq (RepL.dp r (by simpa only [PyData.canLay0] using c))
  | _, _, .dK _ _ _, h => by simp [D.py, PyData.canLay0] at h
  | _, _, .dT _ _ _, h => by simp [D.py, PyData.canLay0] at h
  | _, _, .ins _ _ _, h => by simp [D.py, PyData.canLay0] at h
theorem RepL.dp : ∀ {ds : List D} {vs : List V}, RepL K F H ds vs → PyData.canLayAll0 (D.pyL ds) = true → DpAll K H vs (D.pyL ds)
  | _, _, .nil, _ => by simp only [D.pyL]; exact .nil
  | _, _, .cons h t, c => by
    simp only [D.pyL, PyData.canLayAll0, Bool.and_eq_true] at c ⊢
    exact .cons (h.dp c.1) (RepL.dp t c.2)
end
theorem Now.dp {d : D} {v : V} (h : Now K F H d v) (c : d.py.canLay0 = true) : Dp K H v d.py := by
  cases h with
  | rep h => exact h.dp c
  | at_ h => cases h with
    | lst h r =>
      simp only [D.py] at c ⊢
      exact .lst (.of h) (RepL.dp r (by simpa only [PyData.canLay0] using c))
    | dK _ _ => simp [D.py, PyData.canLay0] at c
    | dT _ _ => simp [D.py, PyData.canLay0] at c
    | ins _ _ => simp [D.py, PyData.canLay0] at c
end

/-! ### operators, by contents -/
/-- a rule by the contents of its places -/
def g2 (f : D → D → Store → Out Sl) (s t : Sl) (μ : Store) : Out Sl := match s.get μ, t.get μ with
  | some a, some b => f a b μ
  | _, _ => .stuck
def g1 (f : D → Store → Out Sl) (s : Sl) (μ : Store) : Out Sl := match s.get μ with
  | some a => f a μ
  | none => .stuck
def okV (d : D) (μ : Store) : Out Sl := .ok (.v d) μ
theorem opd {K : PySem.W.Frag} {r : R2} {f : D → D → Store → Out Sl}
    (h : ∀ (G : Gh) (μ : Store) (H : Hp) (σ : L2.St) (W : WX) (a b : D) (x y : V) (Q : VK), Rel K G μ H → Now K G.F H a x → Now K G.F H b y → Post (SlRep K) K W σ G H (f a b μ) Q → r x y H Q) : OpD K r (g2 f) := by
  intro G μ H σ W s t x y Q R rs rt p
  unfold g2 at p
  cases e1 : s.get μ with
  | none => rw [e1] at p; exact p.elim
  | some a =>
    cases e2 : t.get μ with
    | none => rw [e1, e2] at p; exact p.elim
    | some b =>
      rw [e1, e2] at p
      exact h G μ H σ W a b x y Q R (R.now rs e1) (R.now rt e2) p
theorem OpD.or {K : PySem.W.Frag} {r r' : R2} {g : Sl → Sl → Store → Out Sl} (h : OpD K r g) : OpD K (fun x y H Q => r x y H Q ∨ r' x y H Q) g := fun G μ H σ W s t x y Q R rs rt p => .inl (h G μ H σ W s t x y Q R rs rt p)

/-- numbers, as ints -/
def addF (nb : Bool) : D → D → Store → Out Sl
  | .int i, .int j, μ => okV (.int (i + j)) μ
  | .int i, .bl k, μ => okV (.int (i + b2i k)) μ
  | .lst a, .lst b, μ => if a.length + b.length ≤ lim then mk nb (.lst (a ++ b)) μ else .stuck
  | .tup a, .tup b, μ => if a.length + b.length ≤ lim then okV (.tup (a ++ b)) μ else .stuck
  | .str a, .str b, μ => if a.length + b.length ≤ lim then okV (.str (a ++ b)) μ else .stuck
  | _, _, _ => .stuck
section
variable {K : PySem.W.Frag}
abbrev rAddAll (K : PySem.W.Frag) : R2 := fun x y H Q => rI0 (fun i j => .int (i + j)) x y H Q ∨ (fun x y H Q => ∃ i k, x = .int i ∧ y = .bl k ∧ Q (.int (i + b2i k)) H) x y H Q ∨ rCat x y H Q ∨ rCatA K x y H Q ∨
  (fun x y H Q => ∃ i j, x = .str i ∧ y = .str j ∧ i.length + j.length ≤ sizeLine ∧ Q (.str (i ++ j)) H) x y H Q
theorem opr_add {X : Cx} : OpR X (binaryOp .Add) (rAddAll X.K) := op_add.or (op_add_ib.or (op_cat.or (op_catA.or op_add_str)))
theorem opd_add (nb : Bool) : OpD K (rAddAll K) (g2 (addF nb)) := by
  refine opd fun G μ H σ W a b x y Q R ra rb p => ?_
  unfold addF at p
  split at p
  · rw [ra.int, rb.int]
    exact .inl ⟨_, _, rfl, rfl, Post.val R p (.int _)⟩
  · rw [ra.int, rb.bl]
    exact .inr (.inl ⟨_, _, rfl, rfl, Post.val R p (.int _)⟩)
  · rename_i a b
    by_cases hl : a.length + b.length ≤ lim
    · rw [if_pos hl] at p
      obtain ⟨l, xs, rfl, h1, r1⟩ := ra.lst
      obtain ⟨m, ys, rfl, h2, r2⟩ := rb.lst
      refine .inr (.inr (.inl ⟨l, m, xs, ys, rfl, rfl, h1, h2, by rw [← r1.length, ← r2.length, sizeLine_lim]; exact hl, fun q hq => Post.mkL R p hq (r1.append r2)⟩))
    · rw [if_neg hl] at p; exact p.elim
  · rename_i a b
    by_cases hl : a.length + b.length ≤ lim
    · rw [if_pos hl] at p
      obtain ⟨l, xs, rfl, h1, r1⟩ := ra.tup
      obtain ⟨m, ys, rfl, h2, r2⟩ := rb.tup
      refine .inr (.inr (.inr (.inl ⟨l, m, xs, ys, rfl, rfl, h1.sq, h2.sq, by rw [← r1.length, ← r2.length, sizeLine_lim]; exact hl, fun e => ?_, fun _ e => ?_, fun _ _ q hq => Post.mkT R p hq (r1.append r2)⟩)))
      · subst e
        cases r1
        exact Post.val R p (.tup h2 r2)
      · subst e
        cases r2
        rw [List.append_nil] at p
        exact Post.val R p (.tup h1 r1)
    · rw [if_neg hl] at p; exact p.elim
  · rename_i a b
    by_cases hl : a.length + b.length ≤ lim
    · rw [if_pos hl] at p
      rw [ra.str, rb.str]
      exact .inr (.inr (.inr (.inr ⟨_, _, rfl, rfl, by rw [sizeLine_lim]; exact hl, Post.val R p (.str _)⟩)))
    · rw [if_neg hl] at p; exact p.elim
  · exact p.elim
def subF : D → D → Store → Out Sl
  | .int i, .int j, μ => okV (.int (i - j)) μ
  | _, _, _ => .stuck
theorem opd_sub : OpD K (rI0 fun i j => .int (i - j)) (g2 subF) := by
  refine opd fun G μ H σ W a b x y Q R ra rb p => ?_
  unfold subF at p
  split at p
  · rw [ra.int, rb.int]
    exact ⟨_, _, rfl, rfl, Post.val R p (.int _)⟩
  · exact p.elim
/-- one factor within 2^64 -/
def mulOk (i j : Int) : Bool := (decide (-(2 ^ 64) < i) && decide (i < 2 ^ 64)) || (decide (-(2 ^ 64) < j) && decide (j < 2 ^ 64))
def mulF (nb : Bool) : D → D → Store → Out Sl
  | .int i, .int j, μ => if mulOk i j = true then okV (.int (i * j)) μ else .stuck
  | .lst a, .int k, μ => if a.length * k.toNat ≤ lim ∧ k.natAbs < 2 ^ 62 then mk nb (.lst (List.replicate k.toNat a).flatten) μ else .stuck
  | _, _, _ => .stuck
abbrev rMulAll : R2 := fun x y H Q => rI CMul (fun i j => .int (i * j)) x y H Q ∨ rRep x y H Q
theorem opr_mul {X : Cx} : OpR X (binaryOp .Mult) rMulAll := op_mul.or op_rep
theorem RepL.rep {K : PySem.W.Frag} {F : Addr → Prop} {H : Hp} {ds : List D} {vs : List V} (r : RepL K F H ds vs) : ∀ n : Nat, RepL K F H (List.replicate n ds).flatten (List.replicate n vs).flatten
  | 0 => .nil
  | n + 1 => by
    rw [List.replicate_succ, List.replicate_succ, List.flatten_cons, List.flatten_cons]
    exact r.append (RepL.rep r n)
theorem opd_mul (nb : Bool) : OpD K rMulAll (g2 (mulF nb)) := by
  refine opd fun G μ H σ W a b x y Q R ra rb p => ?_
  unfold mulF at p
  split at p
  · rename_i i j
    by_cases hl : mulOk i j = true
    · rw [if_pos hl] at p
      rw [ra.int, rb.int]
      refine .inl ⟨_, _, rfl, rfl, ?_, Post.val R p (.int _)⟩
      unfold mulOk at hl
      simp only [Bool.or_eq_true, Bool.and_eq_true, decide_eq_true_eq] at hl
      exact hl
    · rw [if_neg hl] at p; exact p.elim
  · rename_i a k
    by_cases hl : a.length * k.toNat ≤ lim ∧ k.natAbs < 2 ^ 62
    · rw [if_pos hl] at p
      obtain ⟨l, xs, rfl, h1, r1⟩ := ra.lst
      rw [rb.int]
      exact .inr ⟨l, k, xs, rfl, rfl, h1, by omega, by omega, by rw [← r1.length, sizeLine_lim]; exact hl.1, fun q hq => Post.mkL R p hq (r1.rep _)⟩
    · rw [if_neg hl] at p; exact p.elim
  · exact p.elim
def fdivF : D → D → Store → Out Sl
  | .int i, .int j, μ => if j ≠ 0 ∧ j.natAbs < 1073741824 then okV (.int (i.fdiv j)) μ else .stuck
  | _, _, _ => .stuck
theorem opd_fdiv : OpD K (rI CDivN fun i j => .int (i.fdiv j)) (g2 fdivF) := by
  refine opd fun G μ H σ W a b x y Q R ra rb p => ?_
  unfold fdivF at p
  split at p
  · rename_i i j
    by_cases hl : j ≠ 0 ∧ j.natAbs < 1073741824
    · rw [if_pos hl] at p
      rw [ra.int, rb.int]
      exact ⟨_, _, rfl, rfl, hl, Post.val R p (.int _)⟩
    · rw [if_neg hl] at p; exact p.elim
  · exact p.elim
def modF : D → D → Store → Out Sl
  | .int i, .int j, μ => if j ≠ 0 then okV (.int (i.fmod j)) μ else .stuck
  | _, _, _ => .stuck
theorem opd_mod : OpD K (rI (fun _ j => j ≠ 0) fun i j => .int (i.fmod j)) (g2 modF) := by
  refine opd fun G μ H σ W a b x y Q R ra rb p => ?_
  unfold modF at p
  split at p
  · rename_i i j
    by_cases hl : j ≠ 0
    · rw [if_pos hl] at p
      rw [ra.int, rb.int]
      exact ⟨_, _, rfl, rfl, hl, Post.val R p (.int _)⟩
    · rw [if_neg hl] at p; exact p.elim
  · exact p.elim
def powF : D → D → Store → Out Sl
  | .int i, .int j, μ => if 0 ≤ j ∧ j ≤ 1000000 ∧ i.natAbs < 2 ^ 64 then okV (.int (i ^ j.toNat)) μ else .stuck
  | _, _, _ => .stuck
theorem opd_pow : OpD K (rI CPow fun i j => .int (i ^ j.toNat)) (g2 powF) := by
  refine opd fun G μ H σ W a b x y Q R ra rb p => ?_
  unfold powF at p
  split at p
  · rename_i i j
    by_cases hl : 0 ≤ j ∧ j ≤ 1000000 ∧ i.natAbs < 2 ^ 64
    · rw [if_pos hl] at p
      rw [ra.int, rb.int]
      exact ⟨_, _, rfl, rfl, hl, Post.val R p (.int _)⟩
    · rw [if_neg hl] at p; exact p.elim
  · exact p.elim
/-- < <= > >= : ints; < of texts is not here -/
def ordF (f : Int → Int → Bool) : D → D → Store → Out Sl
  | .int i, .int j, μ => okV (.bl (f i j)) μ
  | _, _, _ => .stuck
theorem opd_ord (f : Int → Int → Bool) : OpD K (rI0 fun i j => .bl (f i j)) (g2 (ordF f)) := by
  refine opd fun G μ H σ W a b x y Q R ra rb p => ?_
  unfold ordF at p
  split at p
  · rw [ra.int, rb.int]
    exact ⟨_, _, rfl, rfl, Post.val R p (.bl _)⟩
  · exact p.elim
abbrev ltF := ordF fun i j => decide (i < j)
abbrev leF := ordF fun i j => decide (i ≤ j)
abbrev gtF := ordF fun i j => decide (j < i)
abbrev geF := ordF fun i j => decide (j ≤ i)
/-- == and != of data -/
def eqF : D → D → Store → Out Sl := fun a b μ => if SeqAt.shaped a.py = true ∧ SeqAt.shaped b.py = true then okV (.bl (PyData.eqv a.py b.py)) μ else .stuck
def neF : D → D → Store → Out Sl := fun a b μ => if SeqAt.shaped a.py = true ∧ SeqAt.shaped b.py = true then okV (.bl (!PyData.eqv a.py b.py)) μ else .stuck
theorem opd_eq : OpD K (rEqD K) (g2 eqF) := by
  refine opd fun G μ H σ W a b x y Q R ra rb p => ?_
  unfold eqF at p
  by_cases hl : SeqAt.shaped a.py = true ∧ SeqAt.shaped b.py = true
  · rw [if_pos hl] at p
    exact ⟨_, _, ra.dp (SeqAt.canLay_of_shaped hl.1), rb.dp (SeqAt.canLay_of_shaped hl.2), hl.1, hl.2, Post.val R p (.bl _)⟩
  · rw [if_neg hl] at p; exact p.elim
theorem opd_ne : OpD K (rNeD K) (g2 neF) := by
  refine opd fun G μ H σ W a b x y Q R ra rb p => ?_
  unfold neF at p
  by_cases hl : SeqAt.shaped a.py = true ∧ SeqAt.shaped b.py = true
  · rw [if_pos hl] at p
    exact ⟨_, _, ra.dp (SeqAt.canLay_of_shaped hl.1), rb.dp (SeqAt.canLay_of_shaped hl.2), hl.1, hl.2, Post.val R p (.bl _)⟩
  · rw [if_neg hl] at p; exact p.elim
end
end DL

namespace DL
open PySem PySem.Spec PyProof.Rows L2

/-! ### unary, is, in, places -/
def UnD (K : PySem.W.Frag) (r : V → Hp → VK → Prop) (g : Sl → Store → Out Sl) : Prop := ∀ (G : Gh) (μ : Store) (H : Hp) (σ : L2.St) (W : WX) (s : Sl) (x : V) (Q : VK), Rel K G μ H → SlRep K G H s x → Post (SlRep K) K W σ G H (g s μ) Q → r x H Q
theorem und {K : PySem.W.Frag} {r : V → Hp → VK → Prop} {f : D → Store → Out Sl}
    (h : ∀ (G : Gh) (μ : Store) (H : Hp) (σ : L2.St) (W : WX) (a : D) (x : V) (Q : VK), Rel K G μ H → Now K G.F H a x → Post (SlRep K) K W σ G H (f a μ) Q → r x H Q) : UnD K r (g1 f) := by
  intro G μ H σ W s x Q R rs p
  unfold g1 at p
  cases e1 : s.get μ with
  | none => rw [e1] at p; exact p.elim
  | some a =>
    rw [e1] at p
    exact h G μ H σ W a x Q R (R.now rs e1) p
def negF : D → Store → Out Sl
  | .int i, μ => okV (.int (-i)) μ
  | _, _ => .stuck
theorem und_neg {K : PySem.W.Frag} : UnD K (rU fun i => .int (-i)) (g1 negF) := by
  refine und fun G μ H σ W a x Q R ra p => ?_
  unfold negF at p
  split at p
  · rw [ra.int]
    exact ⟨_, rfl, Post.val R p (.int _)⟩
  · exact p.elim
section
variable {X : Cx} {P : PX} {W : WX} {a b c e : Expr} {es : List Expr} {fa fb fc : FE} {ft fu : FT} {fg : FA} {pos p : Pos}
theorem TD.un {K : PySem.W.Frag} {r : V → Hp → VK → Prop} {g : Sl → Store → Out Sl} (hg : UnD K r g) : ∀ σ H Q, TD K P W (fUn fa g) σ H Q → TD K P W fa σ H (fun x H1 => r x H1 Q) := by
  rintro σ H Q ⟨G, μ, ρ, he, h⟩
  exact ⟨G, μ, ρ, he, Post.bind h fun s μ1 x G1 H1 x1 R1 r1 h1 => hg G1 μ1 H1 σ W s x Q R1 r1 h1⟩
theorem de_un {op : UnaryOp} {r : V → Hp → VK → Prop} {g : Sl → Store → Out Sl} (ho : UnR X (unaryOp op) r) (hg : UnD X.K r g) (ha : DE X P W a fa) : DE X P W (.UnaryOp op a pos) (fUn fa g) := (pe_un ho ha).to (TD.un hg)

/-! ### is -/
def isNonF (neg : Bool) : Sl → Store → Out Sl
  | .v .non, μ => okV (.bl (!neg)) μ
  | .v _, μ => okV (.bl neg) μ
  | .c n, μ => match (μ[n]?).join with
    | some _ => okV (.bl neg) μ
    | none => .stuck
  | _, _ => .stuck
theorem rep_non {K : PySem.W.Frag} {F : Addr → Prop} {H : Hp} {d : D} {v : V} (h : Rep K F H d v) : decide (v = .non) = (match d with | .non => true | _ => false) := by
  cases h <;> rfl
theorem und_isN {K : PySem.W.Frag} : UnD K (fun x H1 Q => Q (.bl (decide (x = .non))) H1) (isNonF false) := by
  intro G μ H σ W s x Q R rs p
  match s with
  | .v d =>
    show Q (.bl (decide (x = .non))) H
    rw [rep_non rs]
    cases d <;> exact Post.val R p (.bl _)
  | .c n =>
    unfold isNonF at p
    cases e : (μ[n]?).join with
    | none => simp only [e] at p; exact p.elim
    | some d =>
      simp only [e] at p
      have q := R.now (s := .c n) rs e
      have hx : ∃ a, x = .ref a := by
        have e' : μ[n]? = some (some d) := by
          cases z : μ[n]? with
          | none => rw [z] at e; cases e
          | some o => rw [z] at e; exact congrArg some e
        obtain ⟨a, ea, _, _⟩ := R.cell n d e'
        exact ⟨a, rs.2 a ea⟩
      obtain ⟨a, rfl⟩ := hx
      exact Post.val R p (.bl _)
theorem und_notN {K : PySem.W.Frag} : UnD K (fun x H1 Q => Q (.bl (!decide (x = .non))) H1) (isNonF true) := by
  intro G μ H σ W s x Q R rs p
  match s with
  | .v d =>
    show Q (.bl (!decide (x = .non))) H
    rw [rep_non rs]
    cases d <;> exact Post.val R p (.bl _)
  | .c n =>
    unfold isNonF at p
    cases e : (μ[n]?).join with
    | none => simp only [e] at p; exact p.elim
    | some d =>
      simp only [e] at p
      have e' : μ[n]? = some (some d) := by
        cases z : μ[n]? with
        | none => rw [z] at e; cases e
        | some o => rw [z] at e; exact congrArg some e
      obtain ⟨a, ea, _, _⟩ := R.cell n d e'
      cases rs.2 a ea
      exact Post.val R p (.bl _)
theorem de_isN {j pos'} (ha : DE X P W a fa) : DE X P W (.Compare a [.Is] [.Constant .none j pos'] pos) (fUn fa (isNonF false)) := (pe_cmp (pc_isN ha) rfl).to (TD.un und_isN)
theorem de_notN {j pos'} (ha : DE X P W a fa) : DE X P W (.Compare a [.IsNot] [.Constant .none j pos'] pos) (fUn fa (isNonF true)) := (pe_cmp (pc_notN ha) rfl).to (TD.un und_notN)
/-- is, of None and truth values -/
def isCB : V → Bool
  | .non => true
  | .bl _ => true
  | _ => false
theorem op_isC (neg : Bool) : OpR X (compareOp (if neg then .IsNot else .Is)) (fun x y H Q => isCB x = true ∧ isCB y = true ∧ Q (.bl (if neg then !decide (x = y) else decide (x = y))) H) := by
  intro pins s σ H x y v u Q I rx ry h
  obtain ⟨hx, hy, q⟩ := h
  have key : plainIs v u = true ∧ (x = y ↔ v = u) := by
    cases x <;> first | exact absurd hx Bool.false_ne_true | (cases y <;> first | exact absurd hy Bool.false_ne_true | (cases rx; cases ry; refine ⟨rfl, ?_⟩; simp))
  obtain ⟨hp, iff⟩ := key
  cases neg with
  | true =>
    by_cases e : x = y
    · have e2 := iff.mp e
      subst e2
      exact wpAny_isNot_self hp ⟨.bl false, H, I, rfl, by simpa [e] using q⟩
    · exact wpAny_isNot_other hp (fun z => e (iff.mpr z)) ⟨.bl true, H, I, rfl, by simpa [e] using q⟩
  | false =>
    by_cases e : x = y
    · have e2 := iff.mp e
      subst e2
      exact wpAny_is_self hp ⟨.bl true, H, I, rfl, by simpa [e] using q⟩
    · exact wpAny_is_other hp (fun z => e (iff.mpr z)) ⟨.bl false, H, I, rfl, by simpa [e] using q⟩
def isF (neg : Bool) : D → D → Store → Out Sl
  | .non, .non, μ => okV (.bl (!neg)) μ
  | .bl a, .bl b, μ => okV (.bl (if neg then !decide (a = b) else decide (a = b))) μ
  | .non, .bl _, μ => okV (.bl neg) μ
  | .bl _, .non, μ => okV (.bl neg) μ
  | _, _, _ => .stuck
theorem opd_is (neg : Bool) {K : PySem.W.Frag} : OpD K (fun x y H Q => isCB x = true ∧ isCB y = true ∧ Q (.bl (if neg then !decide (x = y) else decide (x = y))) H) (g2 (isF neg)) := by
  refine opd fun G μ H σ W a b x y Q R ra rb p => ?_
  unfold isF at p
  split at p
  · rw [ra.non, rb.non]
    refine ⟨rfl, rfl, ?_⟩
    have e : (if neg = true then !decide (V.non = V.non) else decide (V.non = V.non)) = !neg := by cases neg <;> rfl
    rw [e]
    exact Post.val R p (.bl _)
  · rename_i i j
    rw [ra.bl, rb.bl]
    refine ⟨rfl, rfl, ?_⟩
    have e : (if neg = true then !decide (V.bl i = V.bl j) else decide (V.bl i = V.bl j)) = if neg = true then !decide (i = j) else decide (i = j) := by simp
    rw [e]
    exact Post.val R p (.bl _)
  · rw [ra.non, rb.bl]
    refine ⟨rfl, rfl, ?_⟩
    rename_i j
    have e : (if neg = true then !decide (V.non = V.bl j) else decide (V.non = V.bl j)) = neg := by cases neg <;> rfl
    rw [e]
    exact Post.val R p (.bl _)
  · rw [ra.bl, rb.non]
    refine ⟨rfl, rfl, ?_⟩
    rename_i i
    have e : (if neg = true then !decide (V.bl i = V.non) else decide (V.bl i = V.non)) = neg := by cases neg <;> rfl
    rw [e]
    exact Post.val R p (.bl _)
  · exact p.elim

/-! ### in -/
def D.flat : D → Bool
  | .non => true
  | .bl _ => true
  | .int _ => true
  | .str _ => true
  | _ => false
/-- the truth of an item in a row -/
def inD (x : D) (ds : List D) : Bool := ds.any fun z => PyData.eqv z.py x.py
def inF (neg : Bool) : D → D → Store → Out Sl
  | x, .lst ds, μ => if SeqAt.shaped x.py = true ∧ SeqAt.shaped (.list (D.pyL ds)) = true then okV (.bl (if neg then !inD x ds else inD x ds)) μ else .stuck
  | x, .tup ds, μ => if x.flat = true ∧ ds.all D.flat = true then okV (.bl (if neg then !inD x ds else inD x ds)) μ else .stuck
  | _, _, _ => .stuck
theorem pyL_any (p : PyData → Bool) : ∀ ds : List D, (D.pyL ds).any p = ds.any fun z => p z.py
  | [] => rfl
  | d :: ds => by
    rw [D.pyL, List.any_cons, List.any_cons, pyL_any p ds]
theorem flat_eqV {K : PySem.W.Frag} {F : Addr → Prop} {H : Hp} {d e : D} {v u : V} (rd : Rep K F H d v) (re : Rep K F H e u) (fd : d.flat = true) (fe : e.flat = true) : flatV v = true ∧ flatV u = true ∧ eqV v u = PyData.eqv d.py e.py := by
  cases rd <;> first | exact absurd fd Bool.false_ne_true | (cases re <;> first | exact absurd fe Bool.false_ne_true | (refine ⟨rfl, rfl, ?_⟩; simp [eqV, D.py, PyData.eqv]; done))

theorem flat_list {K : PySem.W.Frag} {F : Addr → Prop} {H : Hp} {x : D} {v : V} (rx : Rep K F H x v) (fx : x.flat = true) : ∀ {ds : List D} {vs : List V}, RepL K F H ds vs → ds.all D.flat = true → vs.all flatV = true ∧ inV v vs = inD x ds
  | _, _, .nil, _ => ⟨rfl, rfl⟩
  | _, _, .cons h t, e => by
    rw [List.all_cons, Bool.and_eq_true] at e
    obtain ⟨q1, q2⟩ := flat_list rx fx t e.2
    obtain ⟨z1, z2, z3⟩ := flat_eqV h rx e.1 fx
    refine ⟨by rw [List.all_cons, z1, q1]; rfl, ?_⟩
    unfold inV inD at q2 ⊢
    rw [List.any_cons, List.any_cons, q2, z3]
theorem Now.flat {K : PySem.W.Frag} {F : Addr → Prop} {H : Hp} {d : D} {v : V} (h : Now K F H d v) (f : d.flat = true) : Rep K F H d v := by
  cases h with
  | rep h => exact h
  | at_ h => cases h <;> exact absurd f Bool.false_ne_true
abbrev rInAll (K : PySem.W.Frag) (neg : Bool) : R2 := fun x y H Q => (∃ d ds, Dp K H x d ∧ Dp K H y (.list ds) ∧ SeqAt.shaped d = true ∧ SeqAt.shaped (.list ds) = true ∧ Q (.bl (if neg = true then !ds.any (fun z => PyData.eqv z d) else ds.any fun z => PyData.eqv z d)) H) ∨ rIn K neg x y H Q
theorem opr_in (hu : X.A.units + 65 < cLine) : OpR X (compareOp .In) (rInAll X.K false) := (show OpR X (compareOp .In) (rInD X.K) from op_inD hu).or op_in_seq
theorem opr_notIn (hu : X.A.units + 65 < cLine) : OpR X (compareOp .NotIn) (rInAll X.K true) := (show OpR X (compareOp .NotIn) (rNotInD X.K) from op_notInD hu).or op_notIn_seq
theorem opd_in (neg : Bool) {K : PySem.W.Frag} : OpD K (rInAll K neg) (g2 (inF neg)) := by
  refine opd fun G μ H σ W a b x y Q R ra rb p => ?_
  unfold inF at p
  split at p
  · rename_i ds
    by_cases hl : SeqAt.shaped a.py = true ∧ SeqAt.shaped (.list (D.pyL ds)) = true
    · rw [if_pos hl] at p
      have hb := rb.dp (by simp only [D.py]; exact SeqAt.canLay_of_shaped hl.2)
      simp only [D.py] at hb
      refine .inl ⟨_, _, ra.dp (SeqAt.canLay_of_shaped hl.1), hb, hl.1, hl.2, ?_⟩
      rw [pyL_any]
      exact Post.val R p (.bl _)
    · rw [if_neg hl] at p; exact p.elim
  · rename_i ds
    by_cases hl : a.flat = true ∧ ds.all D.flat = true
    · rw [if_pos hl] at p
      obtain ⟨t, xs, rfl, h1, r1⟩ := rb.tup
      have ha := ra.flat hl.1
      obtain ⟨q1, q2⟩ := flat_list ha hl.1 r1 hl.2
      have fx : flatV x = true := by
        revert ha hl
        cases a <;> intro hl ha <;> first | exact absurd hl.1 Bool.false_ne_true | (cases ha; rfl)
      refine .inr ⟨t, xs, rfl, .inr h1.sq, fx, q1, ?_⟩
      rw [q2]
      exact Post.val R p (.bl _)
    · rw [if_neg hl] at p; exact p.elim
  · exact p.elim
theorem de_in (neg : Bool) (hu : X.A.units + 65 < cLine) (hm : behindInMarks (if neg = true then .NotIn else .In) b = false) (ha : DE X P W a fa) (hb : DE X P W b fb) : DE X P W (.Compare a [if neg = true then .NotIn else .In] [b] pos) (fBin fa fb (g2 (inF neg))) := by
  cases neg with
  | true => exact de_cmp (opr_notIn hu) (opd_in true) hm ha hb
  | false => exact de_cmp (opr_in hu) (opd_in false) hm ha hb

/-! ### items -/
def ixF : D → D → Store → Out Sl
  | .lst ds, .int i, μ => match atI ds i with
    | some d => okV d μ
    | none => .stuck
  | .tup ds, .int i, μ => match atI ds i with
    | some d => okV d μ
    | none => .stuck
  | .fz ds, .int i, μ => match atI ds i with
    | some d => okV d μ
    | none => .stuck
  | .str z, .int i, μ => if z.length ≤ lim then match atI z.cps.toList i with
    | some c => okV (.str ⟨#[c]⟩) μ
    | none => .stuck
    else .stuck
  | _, _, _ => .stuck
theorem atI_rep {K : PySem.W.Frag} {F : Addr → Prop} {H : Hp} {ds : List D} {vs : List V} {i : Int} {d : D} (r : RepL K F H ds vs) (h : atI ds i = some d) : ∃ v, atI vs i = some v ∧ Rep K F H d v := by
  unfold atI at h ⊢
  rw [r.length] at h
  cases e : ixN vs.length i with
  | none => rw [e] at h; cases h
  | some j =>
    rw [e] at h
    obtain ⟨v, h1, h2⟩ := r.get (show ds[j]? = some d from h)
    exact ⟨v, h1, h2⟩
theorem opd_ix {K : PySem.W.Frag} : OpD K (rIx K) (g2 ixF) := by
  refine opd fun G μ H σ W a b x y Q R ra rb p => ?_
  unfold ixF at p
  split at p
  · rename_i ds i
    cases e : atI ds i with
    | none => rw [e] at p; exact p.elim
    | some d =>
      rw [e] at p
      obtain ⟨t, xs, rfl, h1, r1⟩ := ra.sql
      obtain ⟨v, h2, r2⟩ := atI_rep r1 e
      rw [rb.int]
      exact .inl ⟨t, xs, i, v, rfl, rfl, h1, h2, Post.val R p r2⟩
  · rename_i ds i
    cases e : atI ds i with
    | none => rw [e] at p; exact p.elim
    | some d =>
      rw [e] at p
      obtain ⟨t, xs, rfl, h1, r1⟩ := ra.tup
      obtain ⟨v, h2, r2⟩ := atI_rep r1 e
      rw [rb.int]
      exact .inr (.inl ⟨t, xs, i, v, rfl, rfl, h1.sq, h2, Post.val R p r2⟩)
  · rename_i ds i
    cases e : atI ds i with
    | none => rw [e] at p; exact p.elim
    | some d =>
      rw [e] at p
      obtain ⟨t, xs, rfl, h1, r1⟩ := ra.fz
      obtain ⟨v, h2, r2⟩ := atI_rep r1 e
      rw [rb.int]
      exact .inl ⟨t, xs, i, v, rfl, rfl, h1, h2, Post.val R p r2⟩
  · rename_i z i
    by_cases hl : z.length ≤ lim
    · rw [if_pos hl] at p
      cases e : atI z.cps.toList i with
      | none => rw [e] at p; exact p.elim
      | some c =>
        rw [e] at p
        rw [ra.str, rb.int]
        exact .inr (.inr ⟨z, i, c, rfl, rfl, by rw [sizeLine_lim]; exact hl, e, Post.val R p (.str _)⟩)
    · rw [if_neg hl] at p; exact p.elim
  · exact p.elim
theorem de_ix (ha : DE X P W a fa) (hb : DE X P W b fb) (hs : PlainIx b := by exact fun _ _ => rfl) : DE X P W (.Subscript a b pos) (fBin fa fb (g2 ixF)) := (pe_ix ix_seq ha hb hs).to (TD.bin opd_ix)

/-! ### slices -/
abbrev FO := Env → Store → Out (Option Int)
def TDO (K : PySem.W.Frag) (P : PX) (W : WX) (f : FO) : TO := fun σ H Q => ∃ G μ ρ, Here K P G μ ρ σ H ∧ Post (fun _ _ a b => a = b) K W σ G H (f ρ μ) Q
abbrev DO (X : Cx) (P : PX) (W : WX) (e : Option Expr) (f : FO) : Prop := PO X e (TDO X.K P W f)
theorem _root_.L2.PO.to {X : Cx} {e : Option Expr} {t t' : TO} (h : PO X e t) (w : ∀ σ H Q, t' σ H Q → t σ H Q) : PO X e t' := ⟨fun pins s σ H Q I q => h.run pins s σ H Q I (w σ H Q q)⟩
def fNo : FO := fun _ μ => .ok none μ
def fPart (f : FE) : FO := fun ρ μ => (f ρ μ).bind fun s μ1 => match s with
  | .v (.int i) => .ok (some i) μ1
  | _ => .stuck
theorem do_none : DO X P W none fNo := po_none.to fun σ H Q h => by
  obtain ⟨G, μ, ρ, he, h⟩ := h
  exact h none G H .refl he.rel rfl
theorem do_some (ha : DE X P W a fa) : DO X P W (some a) (fPart fa) := (po_some ha).to fun σ H Q h => by
  obtain ⟨G, μ, ρ, he, h⟩ := h
  refine ⟨G, μ, ρ, he, Post.bind h fun s μ1 x G1 H1 x1 R1 r1 h1 => ?_⟩
  match s with
  | .v (.int i) => cases r1; exact ⟨i, rfl, h1 _ G1 H1 .refl R1 rfl⟩
def cutD (xs : List D) (lo hi : Option Int) : List D := (xs.drop (HT.sIx xs.length 0 lo)).take (HT.sIx xs.length xs.length hi - HT.sIx xs.length 0 lo)
theorem cut_rep {K : PySem.W.Frag} {F : Addr → Prop} {H : Hp} {ds : List D} {vs : List V} (r : RepL K F H ds vs) (lo hi : Option Int) : RepL K F H (cutD ds lo hi) (cutV vs lo hi) := by
  unfold cutD cutV
  rw [r.length]
  exact (r.drop _).take _
def slF (nb : Bool) : D → Option Int → Option Int → Store → Out Sl
  | .lst ds, lo, hi, μ => mk nb (.lst (cutD ds lo hi)) μ
  | .tup ds, lo, hi, μ => okV (.tup (cutD ds lo hi)) μ
  | _, _, _, _ => .stuck
def fSl (nb : Bool) (fa : FE) (fl fh : FO) : FE := fun ρ μ => (fa ρ μ).bind fun s μ1 => (fl ρ μ1).bind fun lo μ2 => (fh ρ μ2).bind fun hi μ3 => match s.get μ3 with
  | some d => slF nb d lo hi μ3
  | none => .stuck
theorem de_sl (nb : Bool) {lo hi : Option Expr} {fl fh : FO} {p2 : Pos} (ha : DE X P W e fa) (hl : DO X P W lo fl) (hh : DO X P W hi fh) : DE X P W (.Subscript e (.Slice lo hi none p2) pos) (fSl nb fa fl fh) := (pe_slice (sl_list.or sl_tupA) ha hl hh).to fun σ H Q h => by
  obtain ⟨G, μ, ρ, he, h⟩ := h
  refine ⟨G, μ, ρ, he, Post.bind h fun s μ1 x G1 H1 x1 R1 r1 h1 => ⟨G1, μ1, ρ, he.step x1 R1, Post.bind h1 fun lo μ2 y G2 H2 x2 R2 r2 h2 => ⟨G2, μ2, ρ, (he.step x1 R1).step x2 R2, Post.bind h2 fun hi μ3 z G3 H3 x3 R3 r3 h3 => ?_⟩⟩⟩
  subst r2 r3
  cases e : s.get μ3 with
  | none => rw [e] at h3; exact h3.elim
  | some d =>
    rw [e] at h3
    have ra := R3.now (R2.sl x3 (R1.sl x2 r1)) e
    have h3' : Post (SlRep X.K) X.K W σ G3 H3 (slF nb d lo hi μ3) Q := h3
    unfold slF at h3'
    split at h3'
    · obtain ⟨t, xs, rfl, h1, r1⟩ := ra.sql
      exact .inl ⟨t, xs, rfl, h1, fun p hp => Post.mkL R3 h3' hp (cut_rep r1 lo hi)⟩
    · obtain ⟨t, xs, rfl, h1, r1⟩ := ra.tup
      refine .inr ⟨t, xs, rfl, h1.sq, fun hw => ?_, fun _ p hp => Post.mkT R3 h3' hp (cut_rep r1 lo hi)⟩
      refine Post.val R3 h3' (.tup h1 ?_)
      unfold cutD
      rw [r1.length, hw.1, hw.2, List.drop_zero, Nat.sub_zero, ← r1.length, List.take_length]
      exact r1
    · exact h3'.elim
/-- xs[::-1] -/
def revF (nb : Bool) : D → Store → Out Sl
  | .lst ds, μ => mk nb (.lst ds.reverse) μ
  | _, _ => .stuck
theorem de_rev (nb : Bool) {k : Nat} {p1 p2 p3 : Pos} (ha : DE X P W e fa) : DE X P W (.Subscript e (.Slice none none (some (.UnaryOp .USub (.Constant (.int 1) k p1) p2)) p3) pos) (fUn fa (g1 (revF nb))) := (pe_revL ha).to fun σ H Q h => by
  refine TD.un (r := fun x H1 Q => ∃ a xs, x = .ref a ∧ SqL X.K H1 a xs ∧ ∀ p, H1 p = none → Q (.ref p) (upd H1 p (.lst xs.reverse))) (und fun G μ H σ W a x Q R ra p => ?_) σ H Q h
  unfold revF at p
  split at p
  · obtain ⟨t, xs, rfl, h1, r1⟩ := ra.sql
    exact ⟨t, xs, rfl, h1, fun q hq => Post.mkL R p hq r1.reverse⟩
  · exact p.elim
end
end DL

namespace DL
open PySem PySem.Spec PyProof.Rows L2

/-! ### built-ins that are called -/
def CallD (K : PySem.W.Frag) (r : List V → Hp → VK → Prop) (g : List Sl → Store → Out Sl) : Prop :=
  ∀ (G : Gh) (μ : Store) (H : Hp) (σ : L2.St) (W : WX) (ss : List Sl) (vs : List V) (Q : VK), Rel K G μ H → SlReps K G H ss vs → Post (SlRep K) K W σ G H (g ss μ) Q → r vs H Q
def gc1 (f : D → Store → Out Sl) : List Sl → Store → Out Sl
  | [s], μ => g1 f s μ
  | _, _ => .stuck
def gc2 (f : D → D → Store → Out Sl) : List Sl → Store → Out Sl
  | [s, t], μ => g2 f s t μ
  | _, _ => .stuck
theorem cld1 {K : PySem.W.Frag} {r : List V → Hp → VK → Prop} {f : D → Store → Out Sl}
    (h : ∀ (G : Gh) (μ : Store) (H : Hp) (σ : L2.St) (W : WX) (a : D) (x : V) (Q : VK), Rel K G μ H → Now K G.F H a x → Post (SlRep K) K W σ G H (f a μ) Q → r [x] H Q) : CallD K r (gc1 f) := by
  intro G μ H σ W ss vs Q R rs p
  match ss, vs, rs, p with
  | [s], [x], .cons r1 .nil, p => exact und (r := fun x H Q => r [x] H Q) h G μ H σ W s x Q R r1 p
theorem cld2 {K : PySem.W.Frag} {r : List V → Hp → VK → Prop} {f : D → D → Store → Out Sl}
    (h : ∀ (G : Gh) (μ : Store) (H : Hp) (σ : L2.St) (W : WX) (a b : D) (x y : V) (Q : VK), Rel K G μ H → Now K G.F H a x → Now K G.F H b y → Post (SlRep K) K W σ G H (f a b μ) Q → r [x, y] H Q) : CallD K r (gc2 f) := by
  intro G μ H σ W ss vs Q R rs p
  match ss, vs, rs, p with
  | [s, t], [x, y], .cons r1 (.cons r2 .nil), p => exact opd (r := fun x y H Q => r [x, y] H Q) h G μ H σ W s t x y Q R r1 r2 p
section
variable {X : Cx} {P : PX} {W : WX} {a b c e : Expr} {es : List Expr} {fa fb fc : FE} {ft fu : FT} {fg : FA} {pos p : Pos}
theorem TD.cb {K : PySem.W.Frag} {r : List V → Hp → VK → Prop} {g : List Sl → Store → Out Sl} (hg : CallD K r g) : ∀ σ H Q, TD K P W (fCall g fg) σ H Q → TDA K P W fg σ H (fun xs H1 => r xs H1 Q) := by
  rintro σ H Q ⟨G, μ, ρ, he, h⟩
  exact ⟨G, μ, ρ, he, Post.bind h fun s μ1 x G1 H1 x1 R1 r1 h1 => hg G1 μ1 H1 σ W s x Q R1 r1 h1⟩
theorem de_cb {id : String} {x : Str} {r : List V → Hp → VK → Prop} {g : List Sl → Store → Out Sl} (hc : CallR X (.builtin id) r) (hd : CallD X.K r g) (hg : Gl X x) (hm : X.mg x = none) (hv : bootBuiltins x = some (.builtin id)) (ha : DA X P W (e :: es) fg)
    (hn : x ≠ "__name__" := by decide) (hdb : (x == ("__debug__" : Str)) = false := by decide)
    (he : starEach (e :: es) X.env = (false, eval e X.env) :: starEach es X.env := by rfl) (hpl : (backTo pos (starEach es X.env)).any (·.1) = false := by rfl) : DE X P W (.Call (.Name x p) (e :: es) [] pos) (fCall g fg) :=
  (pe_callB hc hg hm hv ha.pa hn hdb he hpl).to (TD.cb hd)
theorem de_ct {T : String} {x : Str} {r : List V → Hp → VK → Prop} {g : List Sl → Store → Out Sl} (hc : CallR X (.type T) r) (hd : CallD X.K r g) (hg : Gl X x) (hm : X.mg x = none) (hv : bootBuiltins x = some (.type T)) (ha : DA X P W (e :: es) fg)
    (hn : x ≠ "__name__" := by decide) (hdb : (x == ("__debug__" : Str)) = false := by decide)
    (he : starEach (e :: es) X.env = (false, eval e X.env) :: starEach es X.env := by rfl) (hpl : (backTo pos (starEach es X.env)).any (·.1) = false := by rfl) : DE X P W (.Call (.Name x p) (e :: es) [] pos) (fCall g fg) :=
  (pe_callTy hc hg hm hv ha.pa hn hdb he hpl).to (TD.cb hd)
end
section
variable {K : PySem.W.Frag}
def absF : D → Store → Out Sl
  | .int i, μ => okV (.int (if i < 0 then -i else i)) μ
  | _, _ => .stuck
theorem cld_abs : CallD K (fun xs H Q => ∃ i, xs = [.int i] ∧ Q (.int (if i < 0 then -i else i)) H) (gc1 absF) := cld1 fun G μ H σ W a x Q R ra p => by
  unfold absF at p
  split at p
  · rw [ra.int]; exact ⟨_, rfl, Post.val R p (.int _)⟩
  · exact p.elim
def max2F : D → D → Store → Out Sl
  | .int i, .int j, μ => okV (.int (if j > i then j else i)) μ
  | _, _, _ => .stuck
theorem cld_max2 : CallD K (fun xs H Q => ∃ i j, xs = [.int i, .int j] ∧ Q (.int (if j > i then j else i)) H) (gc2 max2F) := cld2 fun G μ H σ W a b x y Q R ra rb p => by
  unfold max2F at p
  split at p
  · rw [ra.int, rb.int]; exact ⟨_, _, rfl, Post.val R p (.int _)⟩
  · exact p.elim
def min2F : D → D → Store → Out Sl
  | .int i, .int j, μ => okV (.int (if j < i then j else i)) μ
  | _, _, _ => .stuck
theorem cld_min2 : CallD K (fun xs H Q => ∃ i j, xs = [.int i, .int j] ∧ Q (.int (if j < i then j else i)) H) (gc2 min2F) := cld2 fun G μ H σ W a b x y Q R ra rb p => by
  unfold min2F at p
  split at p
  · rw [ra.int, rb.int]; exact ⟨_, _, rfl, Post.val R p (.int _)⟩
  · exact p.elim
def int1F : D → Store → Out Sl
  | .int i, μ => okV (.int i) μ
  | .bl k, μ => okV (.int (if k then 1 else 0)) μ
  | _, _ => .stuck
theorem cld_int1 : CallD K (fun xs H Q => (∃ i, xs = [.int i] ∧ Q (.int i) H) ∨ ∃ k, xs = [.bl k] ∧ Q (.int (if k then 1 else 0)) H) (gc1 int1F) := cld1 fun G μ H σ W a x Q R ra p => by
  unfold int1F at p
  split at p
  · rw [ra.int]; exact .inl ⟨_, rfl, Post.val R p (.int _)⟩
  · rw [ra.bl]; exact .inr ⟨_, rfl, Post.val R p (.int _)⟩
  · exact p.elim
def lenF : D → Store → Out Sl
  | .lst ds, μ => okV (.int ds.length) μ
  | .tup ds, μ => okV (.int ds.length) μ
  | .fz ds, μ => okV (.int ds.length) μ
  | .str z, μ => if z.length ≤ lim then okV (.int z.length) μ else .stuck
  | .dK ks _, μ => okV (.int ks.length) μ
  | _, _ => .stuck
abbrev rLenA (K : PySem.W.Frag) : List V → Hp → VK → Prop := fun xs H Q => (∃ x n, xs = [x] ∧ LenV K x H n ∧ Q (.int n) H) ∨ (∃ a kvs, xs = [V.ref a] ∧ H a = some (.dK kvs) ∧ Q (.int kvs.length) H)
theorem clr_len {X : Cx} : CallR X (.builtin "len") (rLenA X.K) := call_len.or call_lenD
theorem Now.dK {F : Addr → Prop} {H : Hp} {ks : List Key} {vs : List D} {v : V} (h : Now K F H (.dK ks vs) v) : ∃ a kvs, v = .ref a ∧ H a = some (.dK kvs) ∧ ks = kvs.map (·.1) ∧ RepL K F H vs (kvs.map (·.2)) := by
  cases h with
  | rep h => cases h with
    | dK f h r => exact ⟨_, _, rfl, h, rfl, r⟩
  | at_ h => cases h with
    | dK h r => exact ⟨_, _, rfl, h, rfl, r⟩
theorem cld_len : CallD K (rLenA K) (gc1 lenF) := cld1 fun G μ H σ W a x Q R ra p => by
  unfold lenF at p
  split at p
  · obtain ⟨t, xs, rfl, h1, r1⟩ := ra.sql
    rw [r1.length] at p
    exact .inl ⟨_, _, rfl, .inl ⟨xs, h1, rfl⟩, Post.val R p (.int _)⟩
  · obtain ⟨t, xs, rfl, h1, r1⟩ := ra.tup
    rw [r1.length] at p
    exact .inl ⟨_, _, rfl, .inr ⟨xs, h1.sq, rfl⟩, Post.val R p (.int _)⟩
  · obtain ⟨t, xs, rfl, h1, r1⟩ := ra.fz
    rw [r1.length] at p
    exact .inl ⟨_, _, rfl, .inl ⟨xs, h1, rfl⟩, Post.val R p (.int _)⟩
  · rename_i z
    by_cases hl : z.length ≤ lim
    · rw [if_pos hl] at p
      rw [ra.str]
      exact .inl ⟨_, _, rfl, ⟨by rw [sizeLine_lim]; exact hl, rfl⟩, Post.val R p (.int _)⟩
    · rw [if_neg hl] at p; exact p.elim
  · obtain ⟨t, kvs, rfl, h1, e, r1⟩ := ra.dK
    subst e
    rw [List.length_map] at p
    exact .inr ⟨_, _, rfl, h1, Post.val R p (.int _)⟩
  · exact p.elim
/-- list(x), tuple(x) of lists, tuples -/
def listF (nb : Bool) : D → Store → Out Sl
  | .lst ds, μ => mk nb (.lst ds) μ
  | .tup ds, μ => mk nb (.lst ds) μ
  | .fz ds, μ => mk nb (.lst ds) μ
  | _, _ => .stuck
theorem cld_list (nb : Bool) : CallD K (fun xs H Q => ∃ p ys, xs = [.ref p] ∧ (SqL K H p ys ∨ SqT K H p ys) ∧ ∀ l, H l = none → Q (.ref l) (upd H l (.lst ys))) (gc1 (listF nb)) := cld1 fun G μ H σ W a x Q R ra p => by
  unfold listF at p
  split at p
  · obtain ⟨t, xs, rfl, h1, r1⟩ := ra.sql
    exact ⟨_, _, rfl, .inl h1, fun q hq => Post.mkL R p hq r1⟩
  · obtain ⟨t, xs, rfl, h1, r1⟩ := ra.tup
    exact ⟨_, _, rfl, .inr h1.sq, fun q hq => Post.mkL R p hq r1⟩
  · obtain ⟨t, xs, rfl, h1, r1⟩ := ra.fz
    exact ⟨_, _, rfl, .inl h1, fun q hq => Post.mkL R p hq r1⟩
  · exact p.elim
def tupleF : D → Store → Out Sl
  | .lst ds, μ => okV (.tup ds) μ
  | .tup ds, μ => okV (.tup ds) μ
  | .fz ds, μ => okV (.tup ds) μ
  | _, _ => .stuck
theorem cld_tuple : CallD K (fun xs H Q => ∃ p ys, xs = [.ref p] ∧ ((SqL K H p ys ∧ ∀ l, H l = none → Q (.ref l) (upd H l (.tup ys))) ∨ (SqT K H p ys ∧ Q (.ref p) H))) (gc1 tupleF) := cld1 fun G μ H σ W a x Q R ra p => by
  unfold tupleF at p
  split at p
  · obtain ⟨t, xs, rfl, h1, r1⟩ := ra.sql
    exact ⟨_, _, rfl, .inl ⟨h1, fun q hq => Post.mkT R p hq r1⟩⟩
  · obtain ⟨t, xs, rfl, h1, r1⟩ := ra.tup
    exact ⟨_, _, rfl, .inr ⟨h1.sq, Post.val R p (.tup h1 r1)⟩⟩
  · obtain ⟨t, xs, rfl, h1, r1⟩ := ra.fz
    exact ⟨_, _, rfl, .inl ⟨h1, fun q hq => Post.mkT R p hq r1⟩⟩
  · exact p.elim
/-- the ints of a row -/
def intsOf : List D → Option (List Int)
  | [] => some []
  | .int i :: ds => (intsOf ds).map (i :: ·)
  | _ :: _ => none
theorem intsOf_eq : ∀ {ds : List D} {ns : List Int}, intsOf ds = some ns → ds = ns.map D.int
  | [], _, h => by cases h; rfl
  | .int i :: ds, _, h => by
    have h' : (intsOf ds).map (i :: ·) = some _ := h
    cases q : intsOf ds with
    | none => rw [q] at h'; cases h'
    | some ms => rw [q] at h'; cases h'; rw [intsOf_eq q]; rfl
  | .non :: _, _, h => by cases h
  | .bl _ :: _, _, h => by cases h
  | .str _ :: _, _, h => by cases h
  | .ty _ :: _, _, h => by cases h
  | .glo _ :: _, _, h => by cases h
  | .lst _ :: _, _, h => by cases h
  | .tup _ :: _, _, h => by cases h
  | .fz _ :: _, _, h => by cases h
  | .dK _ _ :: _, _, h => by cases h
  | .dT _ _ :: _, _, h => by cases h
  | .ins _ _ _ :: _, _, h => by cases h
theorem intsOf_map : ∀ ns : List Int, intsOf (ns.map D.int) = some ns
  | [] => rfl
  | n :: ns => by
    show (intsOf (ns.map D.int)).map (n :: ·) = _
    rw [intsOf_map ns]
    rfl
def sumF : D → Store → Out Sl
  | .lst ds, μ => match intsOf ds with
    | some ns => okV (.int ns.sum) μ
    | none => .stuck
  | _, _ => .stuck
theorem cld_sum : CallD K (rSum K) (gc1 sumF) := cld1 fun G μ H σ W a x Q R ra p => by
  unfold sumF at p
  split at p
  · rename_i ds
    cases e : intsOf ds with
    | none => rw [e] at p; exact p.elim
    | some ns =>
      rw [e] at p
      obtain ⟨t, xs, rfl, h1, r1⟩ := ra.sql
      rw [intsOf_eq e] at r1
      rw [r1.ints] at h1
      exact ⟨_, _, rfl, h1, Post.val R p (.int _)⟩
  · exact p.elim
/-- the greatest, the least -/
def maxL : List Int → Int
  | [] => 0
  | [x] => x
  | x :: xs => max x (maxL xs)
def minL : List Int → Int
  | [] => 0
  | [x] => x
  | x :: xs => min x (minL xs)
theorem maxL_ok : ∀ {ns : List Int} {m : Int}, m ∈ ns → (∀ y ∈ ns, y ≤ m) → maxL ns = m
  | [x], m, h, _ => by simp at h; rw [h]; rfl
  | x :: y :: r, m, h, hm => by
    have h1 : x ≤ m := hm x (by simp)
    show max x (maxL (y :: r)) = m
    by_cases hr : m ∈ y :: r
    · rw [maxL_ok hr fun z hz => hm z (List.mem_cons_of_mem _ hz)]
      omega
    · have hx : m = x := by
        rcases List.mem_cons.mp h with e | e
        · exact e
        · exact absurd e hr
      have le : ∀ {l : List Int}, l ≠ [] → (∀ z ∈ l, z ≤ m) → maxL l ≤ m := by
        intro l
        induction l with
        | nil => intro h; exact absurd rfl h
        | cons a t ih =>
          intro _ hl
          cases t with
          | nil => exact hl a (by simp)
          | cons b t =>
            show max a (maxL (b :: t)) ≤ m
            have h1 := ih (by simp) fun z hz => hl z (List.mem_cons_of_mem _ hz)
            have h2 := hl a (by simp)
            omega
      have h2 := le (l := y :: r) (by simp) fun z hz => hm z (List.mem_cons_of_mem _ hz)
      omega
theorem minL_ok : ∀ {ns : List Int} {m : Int}, m ∈ ns → (∀ y ∈ ns, m ≤ y) → minL ns = m
  | [x], m, h, _ => by simp at h; rw [h]; rfl
  | x :: y :: r, m, h, hm => by
    have h1 : m ≤ x := hm x (by simp)
    show min x (minL (y :: r)) = m
    by_cases hr : m ∈ y :: r
    · rw [minL_ok hr fun z hz => hm z (List.mem_cons_of_mem _ hz)]
      omega
    · have hx : m = x := by
        rcases List.mem_cons.mp h with e | e
        · exact e
        · exact absurd e hr
      have le : ∀ {l : List Int}, l ≠ [] → (∀ z ∈ l, m ≤ z) → m ≤ minL l := by
        intro l
        induction l with
        | nil => intro h; exact absurd rfl h
        | cons a t ih =>
          intro _ hl
          cases t with
          | nil => exact hl a (by simp)
          | cons b t =>
            show m ≤ min a (minL (b :: t))
            have h1 := ih (by simp) fun z hz => hl z (List.mem_cons_of_mem _ hz)
            have h2 := hl a (by simp)
            omega
      have h2 := le (l := y :: r) (by simp) fun z hz => hm z (List.mem_cons_of_mem _ hz)
      omega
def maxF : D → Store → Out Sl
  | .lst ds, μ => match intsOf ds with
    | some (n :: ns) => okV (.int (maxL (n :: ns))) μ
    | _ => .stuck
  | _, _ => .stuck
theorem cld_max : CallD K (rMax K) (gc1 maxF) := cld1 fun G μ H σ W a x Q R ra p => by
  unfold maxF at p
  split at p
  · rename_i ds
    split at p
    · rename_i n ns e
      obtain ⟨t, xs, rfl, h1, r1⟩ := ra.sql
      rw [intsOf_eq e] at r1
      rw [r1.ints] at h1
      exact ⟨_, _, rfl, h1, by simp, fun m hm hle => by rw [maxL_ok hm hle] at p; exact Post.val R p (.int _)⟩
    · exact p.elim
  · exact p.elim
def minF : D → Store → Out Sl
  | .lst ds, μ => match intsOf ds with
    | some (n :: ns) => okV (.int (minL (n :: ns))) μ
    | _ => .stuck
  | _, _ => .stuck
theorem cld_min : CallD K (rMin K) (gc1 minF) := cld1 fun G μ H σ W a x Q R ra p => by
  unfold minF at p
  split at p
  · rename_i ds
    split at p
    · rename_i n ns e
      obtain ⟨t, xs, rfl, h1, r1⟩ := ra.sql
      rw [intsOf_eq e] at r1
      rw [r1.ints] at h1
      exact ⟨_, _, rfl, h1, by simp, fun m hm hle => by rw [minL_ok hm hle] at p; exact Post.val R p (.int _)⟩
    · exact p.elim
  · exact p.elim
end

/-! ### isinstance -/
def tyName : D → Option String
  | .non => some "NoneType"
  | .bl _ => some "bool"
  | .int _ => some "int"
  | .str _ => some "str"
  | .lst _ => some "list"
  | .tup _ => some "tuple"
  | .dK _ _ => some "dict"
  | .dT _ _ => some "dict"
  | _ => none
def isiB (a b : String) : Bool := a == b || (a == "bool" && b == "int")
theorem isiB_ok : ∀ a ∈ ["NoneType", "bool", "int", "str", "list", "tuple", "dict"], ∀ b ∈ ["bool", "int", "str", "list", "tuple", "dict"], kitB a b = some (isiB a b) := by decide +kernel
def clsNm (n : String) : Bool := ["bool", "int", "str", "list", "tuple", "dict"].contains n
def clsL : List D → Option (List String)
  | [] => some []
  | .ty n :: ds => if clsNm n = true then (clsL ds).map (n :: ·) else none
  | _ :: _ => none
def isiF : D → D → Store → Out Sl
  | d, .ty n, μ => match tyName d with
    | some t => if clsNm n = true then okV (.bl (isiB t n)) μ else .stuck
    | none => .stuck
  | d, .tup cs, μ => match tyName d, clsL cs with
    | some t, some ns => okV (.bl (ns.any (isiB t))) μ
    | _, _ => .stuck
  | _, _, _ => .stuck
section
variable {K : PySem.W.Frag} {F : Addr → Prop} {H : Hp}
theorem tyName_mem {d : D} {t : String} (h : tyName d = some t) : t ∈ ["NoneType", "bool", "int", "str", "list", "tuple", "dict"] := by
  cases d <;> first | (cases h; decide) | cases h
theorem Now.tyx {d : D} {v : V} {t : String} (h : Now K F H d v) (e : tyName d = some t) : TyX K H v (.type t) := by
  cases h with
  | rep h =>
    cases h with
    | non => cases e; exact .base .non
    | bl b => cases e; exact .base (.bl b)
    | int i => cases e; exact .base (.int i)
    | str x => cases e; exact .base (.str x)
    | lst f h r => cases e; exact .base (.lst h)
    | tup h r =>
      cases e
      rcases h with h | ⟨o, its, n, h1, h2, _⟩
      · exact .base (.tup h)
      · exact .kTuple h1 h2
    | dK f h r => cases e; exact .base (.dK h)
    | dT f h r => cases e; exact .base (.dT h)
    | _ => cases e
  | at_ h =>
    cases h with
    | lst h r => cases e; exact .base (.lst h)
    | dK h r => cases e; exact .base (.dK h)
    | dT h r => cases e; exact .base (.dT h)
    | ins _ _ => cases e
theorem clsL_any {t : String} (ht : t ∈ ["NoneType", "bool", "int", "str", "list", "tuple", "dict"]) : ∀ {cs : List D} {ns : List String} {vs : List V}, clsL cs = some ns → RepL K F H cs vs → Paired ClsV vs (ns.map Value.type) ∧ PySem.W.kitAny K (.type t) (ns.map Value.type) = some (ns.any (isiB t))
  | [], _, _, h, .nil => by cases h; exact ⟨.nil, kitAny_nil⟩
  | .ty n :: cs, _, _, h, .cons r rr => by
    have h' : (if clsNm n = true then (clsL cs).map (n :: ·) else none) = some _ := h
    by_cases hn : clsNm n = true
    · rw [if_pos hn] at h'
      cases q : clsL cs with
      | none => rw [q] at h'; cases h'
      | some ms =>
        rw [q] at h'
        cases h'
        cases r
        obtain ⟨p1, p2⟩ := clsL_any ht q rr
        refine ⟨.cons (.ty n) p1, ?_⟩
        have hb : n ∈ ["bool", "int", "str", "list", "tuple", "dict"] := by
          unfold clsNm at hn
          exact List.contains_iff_mem.mp hn
        refine kitAny_cons (kit_ty (isiB_ok t ht n hb)) (fun e => ?_) (fun e => ?_)
        · rw [p2, List.any_cons, e]; rfl
        · rw [List.any_cons, e]; rfl
    · rw [if_neg hn] at h'; cases h'
  | .non :: _, _, _, h, _ => by cases h
  | .bl _ :: _, _, _, h, _ => by cases h
  | .int _ :: _, _, _, h, _ => by cases h
  | .str _ :: _, _, _, h, _ => by cases h
  | .glo _ :: _, _, _, h, _ => by cases h
  | .lst _ :: _, _, _, h, _ => by cases h
  | .tup _ :: _, _, _, h, _ => by cases h
  | .fz _ :: _, _, _, h, _ => by cases h
  | .dK _ _ :: _, _, _, h, _ => by cases h
  | .dT _ _ :: _, _, _, h, _ => by cases h
  | .ins _ _ _ :: _, _, _, h, _ => by cases h
abbrev rIsiA (K : PySem.W.Frag) : List V → Hp → VK → Prop := fun xs H Q => rIsi K xs H Q ∨ rIsiT K xs H Q ∨ rIsiK K xs H Q
theorem clr_isi {X : Cx} : CallR X (.builtin "isinstance") (rIsiA X.K) := call_isi.or (call_isiT.or call_isiK)
theorem cld_isi : CallD K (rIsiA K) (gc2 isiF) := cld2 fun G μ H σ W a b x y Q R ra rb p => by
  unfold isiF at p
  split at p
  · rename_i n
    cases e : tyName a with
    | none => rw [e] at p; exact p.elim
    | some t =>
      simp only [e] at p
      by_cases hn : clsNm n = true
      · rw [if_pos hn] at p
        have hb : n ∈ ["bool", "int", "str", "list", "tuple", "dict"] := by
          unfold clsNm at hn
          exact List.contains_iff_mem.mp hn
        have hy : y = .ty n := by
          cases rb with
          | rep h => cases h; rfl
          | at_ h => cases h
        rw [hy]
        exact .inl ⟨_, _, _, _, _, rfl, .ty n, ra.tyx e, kit_ty (isiB_ok t (tyName_mem e) n hb), Post.val R p (.bl _)⟩
      · rw [if_neg hn] at p; exact p.elim
  · rename_i cs
    cases e : tyName a with
    | none => rw [e] at p; exact p.elim
    | some t =>
      cases e2 : clsL cs with
      | none => rw [e, e2] at p; exact p.elim
      | some ns =>
        simp only [e, e2] at p
        obtain ⟨tp, xs, rfl, h1, r1⟩ := rb.tup
        obtain ⟨p1, p2⟩ := clsL_any (tyName_mem e) e2 r1
        rcases h1 with h1 | ⟨o, its, n, k1, k2, k3, k4, k5⟩
        · exact .inr (.inl ⟨_, tp, xs, _, _, _, rfl, h1, p1, ra.tyx e, p2, Post.val R p (.bl _)⟩)
        · have e3 := ClsV.all p1 k5
          obtain ⟨oc, od, dt, sl⟩ := o
          simp only at k2 k3
          subst k2 k3
          refine .inr (.inr ⟨_, tp, od, ns.map Value.type, n, sl, _, _, rfl, ?_, ra.tyx e, p2, Post.val R p (.bl _)⟩)
          rw [k1, ← e3]
  · exact p.elim
end
end DL

namespace DL
open PySem PySem.Spec PyProof.Rows L2

/-! ### what a def promises -/
/-- the promise: from the arguments and the store what φ says -/
def spG (K : PySem.W.Frag) (n : Nat) (φ : List Sl → Store → Out Sl) : Sp := fun vs H Q E => vs.length = n ∧ ∃ G μ ss, Rel K G μ H ∧ SlReps K G H ss vs ∧ Post (SlRep K) K (fun c d _ H => E c d H) [] G H (φ ss μ) Q
theorem Post.at_ {K : PySem.W.Frag} {W : WX} {σ : L2.St} {G : Gh} {H : Hp} {α β : Type} {Rp : Gh → Hp → α → β → Prop} {o : Out α} {Q : β → Hp → Prop} (h : Post Rp K W σ G H o Q) : Post Rp K (fun c d _ H => W c d σ H) [] G H o Q := by
  cases o <;> exact h
/-- no cell among them -/
def allVB : List Sl → Bool
  | [] => true
  | .v _ :: ss => allVB ss
  | _ :: _ => false
section
variable {X : Cx} {P : PX} {W : WX} {a b c e : Expr} {es : List Expr} {fa fb fc : FE} {ft fu : FT} {fg : FA} {pos p : Pos}
theorem de_call {k : Nat} {f : Addr} {fd : FuncData} {ps : List Str} {x : Str} {φ : List Sl → Store → Out Sl} (F : FnOk X.prog X.w X.K X.mg X.base (L2.CX X.prog X.w) k f fd ps (spG X.K ps.length φ)) (hr : Room k X.A) (hg : Gl X x) (hm : X.mg x = some (.ref f))
    (hk : PySem.W.keepIn X.K (.ref f) = true) (hb : Binds X.K fd ps []) (tk : Takes X W) (ha : DA X P W (e :: es) fg) (hn : (e :: es).length = ps.length := by rfl) (hdb : (x == ("__debug__" : Str)) = false := by decide)
    (he : starEach (e :: es) X.env = (false, eval e X.env) :: starEach es X.env := by rfl) (hpl : (backTo pos (starEach es X.env)).any (·.1) = false := by rfl) : DE X P W (.Call (.Name x p) (e :: es) [] pos) (fCall φ fg) :=
  (pe_callS F hr hg hm hk hb (fun σ => passAt tk σ) ha.pa hdb he hpl).to fun σ H Q h => by
    obtain ⟨G, μ, ρ, he, h⟩ := h
    exact ⟨G, μ, ρ, he, Post.bindE h fun ss μ1 vs G1 H1 x1 R1 r1 h1 e0 => ⟨by rw [← r1.length, ha.ln _ _ _ _ e0]; exact hn, G1, μ1, ss, R1, r1, h1.at_⟩⟩
end
section
variable {X : Cx} {k : Nat} {f : Addr} {fd : FuncData} {ps : List Str} {sp : Sp} {E : L2.St → XK} {x : Str} {p pos : Pos}
theorem pe_callS0 {CX : CXT} (F : FnOk X.prog X.w X.K X.mg X.base CX k f fd ps sp) (hr : Room k X.A) (hg : Gl X x) (hm : X.mg x = some (.ref f)) (hk : PySem.W.keepIn X.K (.ref f) = true) (hb : Binds X.K fd ps []) (hx : ∀ σ, PassesAt CX X σ (E σ))
    (hdb : (x == ("__debug__" : Str)) = false := by decide) : PE X (.Call (.Name x p) [] [] pos) (fun σ H Q => sp [] H Q (E σ)) := by
  refine ⟨fun pins s σ H Q I h => ?_⟩
  refine wpAny_Call_Name_kw (ld_glob I hg hm ?_ hdb)
  exact PySem.W.callWith_K0 I.kIn hk (run_fnS (us := []) F hr hb (hx σ) I .nil h)
theorem de_call0 {P : PX} {W : WX} {φ : List Sl → Store → Out Sl} (F : FnOk X.prog X.w X.K X.mg X.base (L2.CX X.prog X.w) k f fd ps (spG X.K ps.length φ)) (hr : Room k X.A) (hg : Gl X x) (hm : X.mg x = some (.ref f))
    (hk : PySem.W.keepIn X.K (.ref f) = true) (hb : Binds X.K fd ps []) (tk : Takes X W) (hn : 0 = ps.length := by rfl) (hdb : (x == ("__debug__" : Str)) = false := by decide) : DE X P W (.Call (.Name x p) [] [] pos) (fun _ μ => φ [] μ) :=
  (pe_callS0 F hr hg hm hk hb (fun σ => passAt tk σ) hdb).to fun σ H Q h => by
    obtain ⟨G, μ, ρ, he, h⟩ := h
    exact ⟨hn, G, μ, [], he.rel, .nil, h.at_⟩
end

/-! ### statements -/
inductive Ctl where
  | nx | rt (s : Sl) | bk | ct
inductive SOut where
  | stuck | go (c : Ctl) (ρ : Env) (μ : Store) | exc (e : Exc) (ρ : Env) (μ : Store)
abbrev FS := Env → Store → SOut
def Post1 (K : PySem.W.Frag) (W : WX) (G : Gh) (H : Hp) (o : SOut) (D : Ends) : Prop :=
  match o with
  | .stuck => False
  | .go c ρ μ => ∀ σ' G' H', Ext G H G' H' → Rel K G' μ H' → EnvOk K G' H' ρ σ' → (match c with
    | .nx => D.nx σ' H'
    | .bk => D.bk σ' H'
    | .ct => D.ct σ' H'
    | .rt s => ∀ v, SlRep K G' H' s v → D.rt v H')
  | .exc e ρ μ => ∀ d σ' G' H', Ext G H G' H' → Rel K G' μ H' → EnvOk K G' H' ρ σ' → ExcAt K G' H' e d → W (.ref (He.ga K e.cls)) d σ' H'
def TDS (K : PySem.W.Frag) (P : PX) (W : WX) (f : FS) : TS := fun D σ H => ∃ G μ ρ, Here K P G μ ρ σ H ∧ Post1 K W G H (f ρ μ) D
abbrev DS (X : Cx) (P : PX) (W : WX) (e : Stmt) (f : FS) : Prop := PS X e (TDS X.K P W f)
abbrev DSs (X : Cx) (P : PX) (W : WX) (e : List Stmt) (f : FS) : Prop := PSs X e (TDS X.K P W f)
def SOut.seq (o : SOut) (k : FS) : SOut := match o with
  | .go .nx ρ μ => k ρ μ
  | o => o
def Out.st {α : Type} (o : Out α) (ρ : Env) (k : α → Store → SOut) : SOut := match o with
  | .stuck => .stuck
  | .ok a μ => k a μ
  | .exc e μ => .exc e ρ μ
section
variable {K : PySem.W.Frag} {G G1 : Gh} {H H1 : Hp} {μ : Store} {W : WX} {σ : L2.St} {ρ : Env} {α β : Type} {Rp : Gh → Hp → α → β → Prop} {D : Ends} {P : PX}
theorem Post1.shift {o : SOut} (h : Post1 K W G H o D) (x : Ext G H G1 H1) : Post1 K W G1 H1 o D := by
  cases o with
  | stuck => exact h
  | go c ρ μ => exact fun σ' G' H' y => h σ' G' H' (x.trans y)
  | exc e ρ μ => exact fun d σ' G' H' y => h d σ' G' H' (x.trans y)
theorem Post1.bind {o : Out α} {k : α → Store → SOut} {Q1 : β → Hp → Prop} (he : Here K P G μ ρ σ H) (h : Post1 K W G H (o.st ρ k) D)
    (hk : ∀ a μ1 b G1 H1, Ext G H G1 H1 → Rel K G1 μ1 H1 → Rp G1 H1 a b → Post1 K W G1 H1 (k a μ1) D → Q1 b H1) : Post Rp K W σ G H o Q1 := by
  cases o with
  | stuck => exact h
  | ok a μ => exact fun b G' H' x R r => hk a μ b G' H' x R r (Post1.shift h x)
  | exc e μ => exact fun d G' H' x R q => h d σ G' H' x R (he.rel.env x he.env) q
theorem Post1.nx (h : Post1 K W G H (.go .nx ρ μ) D) (R : Rel K G μ H) (e : EnvOk K G H ρ σ) : D.nx σ H := h σ G H .refl R e
end
def sSkip : FS := fun ρ μ => .go .nx ρ μ
def sSeq (f g : FS) : FS := fun ρ μ => (f ρ μ).seq g
def sIf (c : FT) (f g : FS) : FS := fun ρ μ => (c ρ μ).st ρ fun b μ1 => if b = true then f ρ μ1 else g ρ μ1
def sRet (f : FE) : FS := fun ρ μ => (f ρ μ).st ρ fun s μ1 => .go (.rt s) ρ μ1
def sDrop (f : FE) : FS := fun ρ μ => (f ρ μ).st ρ fun _ μ1 => .go .nx ρ μ1
section
variable {X : Cx} {P : PX} {W : WX} {a b c e : Expr} {es : List Expr} {st : Stmt} {sts : List Stmt} {fa fb fc : FE} {ft fu : FT} {fg : FA} {f g : FS} {pos p : Pos}
theorem dss_nil : DSs X P W [] sSkip := pss_nil.to fun D σ H h => by
  obtain ⟨G, μ, ρ, he, h⟩ := h
  exact h.nx he.rel he.env
theorem dss_cons (h1 : DS X P W st f) (h2 : DSs X P W sts g) : DSs X P W (st :: sts) (sSeq f g) := (pss_cons h1 h2).to fun D σ H h => by
  obtain ⟨G, μ, ρ, he, h⟩ := h
  refine ⟨G, μ, ρ, he, ?_⟩
  have h' : Post1 X.K W G H ((f ρ μ).seq g) D := h
  cases q : f ρ μ with
  | stuck => rw [q] at h'; exact h'
  | exc e ρ1 μ1 => rw [q] at h'; exact h'
  | go c ρ1 μ1 =>
    rw [q] at h'
    cases c with
    | nx => exact fun σ' G' H' x R e => ⟨G', μ1, ρ1, ⟨by rw [x.ex]; exact he.p, R, e⟩, h'.shift x⟩
    | bk => exact h'
    | ct => exact h'
    | rt s => exact h'
theorem dss_one (h1 : DS X P W st f) : DSs X P W [st] f := pss_one h1
/-- a ghost step ahead of a block -/
def Ghost (K : PySem.W.Frag) (t : Env → Store → Option (Env × Store)) : Prop := ∀ G μ ρ σ H, Rel K G μ H → EnvOk K G H ρ σ → ∀ ρ' μ', t ρ μ = some (ρ', μ') → ∃ G', Ext G H G' H ∧ Rel K G' μ' H ∧ EnvOk K G' H ρ' σ
def sGhost (t : Env → Store → Option (Env × Store)) (f : FS) : FS := fun ρ μ => match t ρ μ with
  | some (ρ', μ') => f ρ' μ'
  | none => .stuck
theorem dss_ghost {t : Env → Store → Option (Env × Store)} (ht : Ghost X.K t) (h : DSs X P W sts f) : DSs X P W sts (sGhost t f) := h.to fun D σ H q => by
  obtain ⟨G, μ, ρ, he, q⟩ := q
  have q' : Post1 X.K W G H (match t ρ μ with
    | some (ρ', μ') => f ρ' μ'
    | none => .stuck) D := q
  cases e : t ρ μ with
  | none => rw [e] at q'; exact q'.elim
  | some r =>
    obtain ⟨ρ', μ'⟩ := r
    rw [e] at q'
    obtain ⟨G', x, R, env⟩ := ht G μ ρ σ H he.rel he.env ρ' μ' e
    exact ⟨G', μ', ρ', ⟨by rw [x.ex]; exact he.p, R, env⟩, Post1.shift q' x⟩
theorem ds_pass : DS X P W (.Pass pos) sSkip := ps_pass.to fun D σ H h => by
  obtain ⟨G, μ, ρ, he, h⟩ := h
  exact h.nx he.rel he.env
theorem ds_break : DS X P W (.Break pos) (fun ρ μ => .go .bk ρ μ) := ps_break.to fun D σ H h => by
  obtain ⟨G, μ, ρ, he, h⟩ := h
  exact h σ G H .refl he.rel he.env
theorem ds_continue : DS X P W (.Continue pos) (fun ρ μ => .go .ct ρ μ) := ps_continue.to fun D σ H h => by
  obtain ⟨G, μ, ρ, he, h⟩ := h
  exact h σ G H .refl he.rel he.env
theorem ds_expr (ha : DE X P W a fa) (hs : swapsWith a none pos.line X.env = pure false := by rfl) : DS X P W (.Expr a pos) (sDrop fa) := (ps_expr ha hs).to fun D σ H h => by
  obtain ⟨G, μ, ρ, he, h⟩ := h
  exact ⟨G, μ, ρ, he, h.bind he fun s μ1 x G1 H1 x1 R1 r1 h1 => h1.nx R1 (he.rel.env x1 he.env)⟩
theorem ds_ret (ha : DE X P W a fa) : DS X P W (.Return (some a) pos) (sRet fa) := (ps_ret ha).to fun D σ H h => by
  obtain ⟨G, μ, ρ, he, h⟩ := h
  exact ⟨G, μ, ρ, he, h.bind he fun s μ1 x G1 H1 x1 R1 r1 h1 => h1 σ G1 H1 .refl R1 (he.rel.env x1 he.env) x r1⟩
theorem ds_retN : DS X P W (.Return none pos) (fun ρ μ => .go (.rt (.v .non)) ρ μ) := ps_retN.to fun D σ H h => by
  obtain ⟨G, μ, ρ, he, h⟩ := h
  exact h σ G H .refl he.rel he.env .non .non
theorem ds_if {ts fs : List Stmt} (hc : DT X P W c ft) (ha : DSs X P W ts f) (hb : DSs X P W fs g) : DS X P W (.If c ts fs pos) (sIf ft f g) := (ps_if hc ha hb).to fun D σ H h => by
  obtain ⟨G, μ, ρ, he, h⟩ := h
  refine ⟨G, μ, ρ, he, h.bind he fun s μ1 x G1 H1 x1 R1 r1 h1 => ?_⟩
  subst r1
  cases s with
  | true => exact ⟨G1, μ1, ρ, he.step x1 R1, h1⟩
  | false => exact ⟨G1, μ1, ρ, he.step x1 R1, h1⟩

/-! ### targets, stores -/
abbrev FG := Sl → Env → Store → Option (Env × Store)
def TDG (K : PySem.W.Frag) (P : PX) (f : FG) : TG := fun v σ H Q => ∃ G μ ρ s, Here K P G μ ρ σ H ∧ SlRep K G H s v ∧ (match f s ρ μ with
  | some (ρ', μ') => ∀ σ' G' H', Ext G H G' H' → Rel K G' μ' H' → EnvOk K G' H' ρ' σ' → Q σ' H'
  | none => False)
abbrev DG (X : Cx) (P : PX) (e : Expr) (f : FG) : Prop := PG X e (TDG X.K P f)
theorem _root_.L2.PG.to {X : Cx} {e : Expr} {t t' : TG} (h : PG X e t) (w : ∀ v σ H Q, t' v σ H Q → t v σ H Q) : PG X e t' := ⟨fun pins s σ H v u Q I r q => h.run pins s σ H v u Q I r (w v σ H Q q)⟩
def gNm (i : Nat) : FG := fun s ρ μ => some (ρ.set i (some s), μ)
theorem dg_name (i : Nat) {x : Str} (hN : X.N.Nodup) (hi : X.N[i]? = some x := by rfl) (hx : Loc X.env.scope x := by first | exact Or.inl rfl | exact Or.inr rfl) (hf : X.fn x = true ∨ X.env.scope.names.lookup x = some .local := by first | exact .inl rfl | exact .inr rfl) : DG X P (.Name x pos) (gNm i) :=
  (pg_name hN hi hx hf).to fun v σ H Q h => by
    obtain ⟨G, μ, ρ, s, he, r, h⟩ := h
    exact h _ G H .refl he.rel (he.env.set r i)
abbrev FGs := List D → Env → Store → Option (Env × Store)
def TDGs (K : PySem.W.Frag) (P : PX) (f : FGs) : TGs := fun vs σ H Q => ∃ G μ ρ ds, Here K P G μ ρ σ H ∧ RepL K G.F H ds vs ∧ (match f ds ρ μ with
  | some (ρ', μ') => ∀ σ' G' H', Ext G H G' H' → Rel K G' μ' H' → EnvOk K G' H' ρ' σ' → Q σ' H'
  | none => False)
abbrev DGs (X : Cx) (P : PX) (e : List Expr) (f : FGs) : Prop := PGs X e (TDGs X.K P f)
theorem _root_.L2.PGs.to {X : Cx} {e : List Expr} {t t' : TGs} (h : PGs X e t) (w : ∀ v σ H Q, t' v σ H Q → t v σ H Q) : PGs X e t' := ⟨fun pins s σ H v u Q I r q => h.run pins s σ H v u Q I r (w v σ H Q q)⟩
def gsNil : FGs := fun ds ρ μ => match ds with
  | [] => some (ρ, μ)
  | _ => none
def gsCons (f : FG) (g : FGs) : FGs := fun ds ρ μ => match ds with
  | d :: ds => match f (.v d) ρ μ with
    | some (ρ', μ') => g ds ρ' μ'
    | none => none
  | [] => none
theorem dgs_nil : DGs X P [] gsNil := pgs_nil.to fun vs σ H Q h => by
  obtain ⟨G, μ, ρ, ds, he, r, h⟩ := h
  cases r with
  | nil => exact ⟨rfl, h σ G H .refl he.rel he.env⟩
  | cons _ _ => exact h.elim
theorem dgs_cons {hf : FG} {hg : FGs} (h1 : DG X P a hf) (h2 : DGs X P es hg) (hs : (assignEach (a :: es) X.env).map (·.2) = assign a X.env :: (assignEach es X.env).map (·.2) := by rfl) : DGs X P (a :: es) (gsCons hf hg) := (pgs_cons h1 h2 hs).to fun vs σ H Q h => by
  obtain ⟨G, μ, ρ, ds, he, r, h⟩ := h
  cases r with
  | nil => exact h.elim
  | @cons d v ds vs r rr =>
    refine ⟨v, vs, rfl, G, μ, ρ, .v d, he, r, ?_⟩
    have h' : (match (match hf (.v d) ρ μ with
      | some (ρ', μ') => hg ds ρ' μ'
      | none => none) with
      | some (ρ', μ') => ∀ σ' G' H', Ext G H G' H' → Rel X.K G' μ' H' → EnvOk X.K G' H' ρ' σ' → Q σ' H'
      | none => False) := h
    cases e : hf (.v d) ρ μ with
    | none => rw [e] at h'; exact h'.elim
    | some q =>
      obtain ⟨ρ1, μ1⟩ := q
      simp only [e] at h'
      intro σ1 G1 H1 x1 R1 e1
      refine ⟨G1, μ1, ρ1, ds, ⟨by rw [x1.ex]; exact he.p, R1, e1⟩, he.rel.repL x1 rr, ?_⟩
      cases e2 : hg ds ρ1 μ1 with
      | none => rw [e2] at h'; exact h'.elim
      | some q2 =>
        obtain ⟨ρ2, μ2⟩ := q2
        simp only [e2] at h'
        exact fun σ2 G2 H2 x2 R2 e2 => h' σ2 G2 H2 (x1.trans x2) R2 e2
/-- a, b = .. : of a tuple or of a list -/
def gUnp (n : Nat) (f : FGs) : FG := fun s ρ μ => match s.get μ with
  | some (.tup ds) => if ds.length = n then f ds ρ μ else none
  | _ => none
def gUnpL (n : Nat) (f : FGs) : FG := fun s ρ μ => match s.get μ with
  | some (.lst ds) => if ds.length = n then f ds ρ μ else none
  | _ => none
theorem dg_tup {k n : Nat} {hg : FGs} (hc : X.calm = true) (h : DGs X P es hg) (hn : (assignEach es X.env).length = n := by rfl) (hst : (assignEach es X.env).findIdx? (·.1) = none := by rfl) : DG X P (.Tuple es k pos) (gUnp n hg) := (pg_tup hc h hn hst).to fun v σ H Q h => by
  obtain ⟨G, μ, ρ, s, he, r, h⟩ := h
  unfold gUnp at h
  cases e : s.get μ with
  | none => rw [e] at h; exact h.elim
  | some d =>
    have rn := he.rel.now r e
    rw [e] at h
    cases d with
    | tup ds =>
      simp only at h
      by_cases hl : ds.length = n
      · rw [if_pos hl] at h
        obtain ⟨a, xs, rfl, h1, r1⟩ := rn.tup
        exact ⟨a, xs, rfl, h1.sq, by rw [← r1.length]; exact hl, G, μ, ρ, ds, he, r1, h⟩
      · rw [if_neg hl] at h; exact h.elim
    | _ => exact h.elim
theorem dg_unl {k n : Nat} {hg : FGs} (hc : X.calm = true) (h : DGs X P es hg) (hn : (assignEach es X.env).length = n := by rfl) (hst : (assignEach es X.env).findIdx? (·.1) = none := by rfl) : DG X P (.Tuple es k pos) (gUnpL n hg) := (pg_unl hc h hn hst).to fun v σ H Q h => by
  obtain ⟨G, μ, ρ, s, he, r, h⟩ := h
  unfold gUnpL at h
  cases e : s.get μ with
  | none => rw [e] at h; exact h.elim
  | some d =>
    have rn := he.rel.now r e
    rw [e] at h
    cases d with
    | lst ds =>
      simp only at h
      by_cases hl : ds.length = n
      · rw [if_pos hl] at h
        obtain ⟨a, xs, rfl, h1, r1⟩ := rn.lst
        exact ⟨a, xs, rfl, .of h1, by rw [← r1.length]; exact hl, G, μ, ρ, ds, he, r1, h⟩
      · rw [if_neg hl] at h; exact h.elim
    | _ => exact h.elim
def sAsg (f : FE) (g : FG) : FS := fun ρ μ => (f ρ μ).st ρ fun s μ1 => match g s ρ μ1 with
  | some (ρ', μ') => .go .nx ρ' μ'
  | none => .stuck
theorem TDS.asg {K : PySem.W.Frag} {hg : FG} : ∀ D σ H, TDS K P W (sAsg fa hg) D σ H → tAsg (TD K P W fa) (TDG K P hg) D σ H := by
  rintro D σ H ⟨G, μ, ρ, he, h⟩
  refine ⟨G, μ, ρ, he, h.bind he fun s μ1 x G1 H1 x1 R1 r1 h1 => ⟨G1, μ1, ρ, s, he.step x1 R1, r1, ?_⟩⟩
  cases e : hg s ρ μ1 with
  | none => simp only [e] at h1; exact h1.elim
  | some q =>
    obtain ⟨ρ', μ'⟩ := q
    simp only [e] at h1
    exact fun σ' G' H' x' R' e' => h1 σ' G' H' x' R' e'
theorem ds_asg {tg : Expr} {hg : FG} (ha : DE X P W a fa) (h : DG X P tg hg) (hs : swapsWithSole [tg] a pos.line X.env = pure false := by rfl) (hw : swappedStores [tg] a X.env = pure none := by rfl)
    (h1 : (assignEach [tg] X.env).map (·.2) = [assign tg X.env] := by rfl) : DS X P W (.Assign [tg] a pos) (sAsg fa hg) := (ps_asg ha h hs hw h1).to TDS.asg
theorem ds_set (i : Nat) {x : Str} {p' : Pos} (hN : X.N.Nodup) (ha : DE X P W a fa) (hi : X.N[i]? = some x := by rfl) (hx : Loc X.env.scope x := by first | exact Or.inl rfl | exact Or.inr rfl) (hs : swapsWith a (some (.Name x p')) pos.line X.env = pure false := by rfl)
    (hf : X.fn x = true ∨ X.env.scope.names.lookup x = some .local := by first | exact .inl rfl | exact .inr rfl) : DS X P W (.Assign [.Name x p'] a pos) (sAsg fa (gNm i)) := (ps_set hN hi hx ha hs hf).to fun D σ H h => by
  obtain ⟨G, μ, ρ, he, h⟩ := h
  exact ⟨G, μ, ρ, he, h.bind he fun s μ1 x G1 H1 x1 R1 r1 h1 => h1.nx R1 ((he.rel.env x1 he.env).set r1 i)⟩
/-- a, b = e1, e2 -/
def sPar (i j : Nat) (f : FA) : FS := fun ρ μ => (f ρ μ).st ρ fun ss μ1 => match ss with
  | [s, t] => .go .nx ((ρ.set i (some s)).set j (some t)) μ1
  | _ => .stuck
theorem ds_par (i j : Nat) {x y : Str} {px py pt : Pos} {kt k2 pt2} (hc : X.calm = true) (hN : X.N.Nodup) (ha : DA X P W [a, b] fg)
    (hi : X.N[i]? = some x := by rfl) (hj : X.N[j]? = some y := by rfl) (hij : i ≠ j := by decide)
    (hx : X.env.scope.names.lookup x = some .local := by rfl) (hy : X.env.scope.names.lookup y = some .local := by rfl)
    (hw : swappedStores [.Tuple [.Name x px, .Name y py] kt pt] (.Tuple [a, b] k2 pt2) X.env = pure (some [x, y]) := by rfl)
    (hs : swapsWithSole [.Tuple [.Name x px, .Name y py] kt pt] (.Tuple [a, b] k2 pt2) pos.line X.env = pure false := by rfl) :
    DS X P W (.Assign [.Tuple [.Name x px, .Name y py] kt pt] (.Tuple [a, b] k2 pt2) pos) (sPar i j fg) := (ps_par hc hN hi hj hij hx hy ha.pa hw hs).to fun D σ H h => by
  obtain ⟨G, μ, ρ, he, h⟩ := h
  refine ⟨G, μ, ρ, he, h.bind he fun ss μ1 vs G1 H1 x1 R1 r1 h1 => ?_⟩
  match ss, vs, r1 with
  | [s, t], [v, w], .cons q1 (.cons q2 .nil) => exact ⟨v, w, rfl, h1.nx R1 (((he.rel.env x1 he.env).set q1 i).set q2 j)⟩
/-- x op= e -/
def sAug (i : Nat) (f : FE) (g : Sl → Sl → Store → Out Sl) : FS := fun ρ μ => match ρ[i]? with
  | some (some s) => (f ρ μ).st ρ fun t μ1 => (g s t μ1).st ρ fun z μ2 => .go .nx (ρ.set i (some z)) μ2
  | _ => .stuck
end
end DL

namespace DL
open PySem PySem.Spec PyProof.Rows L2

/-! ### a cell is written -/
section
variable {K : PySem.W.Frag} {G G1 : Gh} {H H1 : Hp} {μ : Store} {W : WX} {σ : L2.St}
theorem Ext.put {n : Nat} {a : Addr} {o : HO} (ha : G.am[n]? = some (some a)) : Ext G H G (upd H a o) where
  keep := fun b u h m => by
    by_cases e : b = a
    · exact absurd (List.mem_of_getElem? ha) (by rw [← e]; exact m)
    · rw [upd_ne e]; exact h
  F := fun _ h => h
  newF := fun _ h => .inl h
  newA := fun _ h => .inl h
  back := fun _ _ _ h => h
  le := Nat.le_refl _
  ex := rfl
  kept := fun b u h => by
    by_cases e : b = a
    · exact ⟨o, by rw [e]; exact upd_same⟩
    · exact ⟨u, by rw [upd_ne e]; exact h⟩
theorem Rel.put (R : Rel K G μ H) {n : Nat} {a : Addr} {o : HO} {d : D} (ha : G.am[n]? = some (some a)) (hd : RepAt K G.F (upd H a o) a d) : Rel K G (μ.set n (some d)) (upd H a o) where
  dom := fun b f => by
    obtain ⟨u, h, m⟩ := R.dom b f
    have e : b ≠ a := fun e => (R.at_am (List.mem_of_getElem? ha)).1 (e ▸ f)
    exact ⟨u, by rw [upd_ne e]; exact h, m⟩
  len := by rw [List.length_set]; exact R.len
  cell := fun c d' e => by
    by_cases hc : n = c
    · subst hc
      have hl : n < μ.length := by rw [← R.len]; exact (List.getElem?_eq_some_iff.mp ha).1
      rw [List.getElem?_set_self hl] at e
      cases e
      exact ⟨a, ha, (R.at_am (List.mem_of_getElem? ha)).1, hd⟩
    · rw [List.getElem?_set_ne hc] at e
      obtain ⟨b, eb, nf, ra⟩ := R.cell c d' e
      have ne : b ≠ a := fun q => hc (R.inj n c a ha (q ▸ eb))
      exact ⟨b, eb, nf, R.cellMono (Ext.put ha) eb e fun u h => by rw [upd_ne ne]; exact h⟩
  live := fun c b e => by
    by_cases hc : n = c
    · subst hc
      have hl : n < μ.length := by rw [← R.len]; exact (List.getElem?_eq_some_iff.mp ha).1
      exact ⟨d, by rw [List.getElem?_set_self hl]⟩
    · obtain ⟨d', e'⟩ := R.live c b e
      exact ⟨d', by rw [List.getElem?_set_ne hc]; exact e'⟩
  inj := R.inj
/-- what a live cell is -/
theorem Rel.cellOf (R : Rel K G μ H) {n : Nat} {d : D} {v : V} (h : SlRep K G H (.c n) v) (e : (μ[n]?).join = some d) : ∃ a, v = .ref a ∧ G.am[n]? = some (some a) ∧ RepAt K G.F H a d := by
  have e' : μ[n]? = some (some d) := by
    cases z : μ[n]? with
    | none => rw [z] at e; cases e
    | some o => rw [z] at e; exact congrArg some e
  obtain ⟨a, ea, _, ra⟩ := R.cell n d e'
  exact ⟨a, h.2 a ea, ea, ra⟩
theorem RepL.up {F : Addr → Prop} {a : Addr} {o : HO} (R : Rel K G μ H) {n : Nat} (ha : G.am[n]? = some (some a)) {ds : List D} {vs : List V} (r : RepL K G.F H ds vs) : RepL K G.F (upd H a o) ds vs :=
  R.repL (Ext.put ha) r
theorem Rep.up {a : Addr} {o : HO} (R : Rel K G μ H) {n : Nat} (ha : G.am[n]? = some (some a)) {d : D} {v : V} (r : Rep K G.F H d v) : Rep K G.F (upd H a o) d v :=
  R.rep (Ext.put ha) r
/-- a list cell is written, a value handed back -/
theorem Post.putL {n : Nat} {a : Addr} {ds : List D} {xs : List V} {d : D} {v : V} {Q : VK} (R : Rel K G μ H) (h : Post (SlRep K) K W σ G H (.ok (.v d) (μ.set n (some (.lst ds)))) Q) (ha : G.am[n]? = some (some a)) (r : RepL K G.F H ds xs) (rv : Rep K G.F H d v) :
    Q v (upd H a (.lst xs)) := h v G _ (Ext.put ha) (R.put ha (.lst upd_same (RepL.up (F := G.F) R ha r))) (Rep.up R ha rv)
end

/-! ### methods of lists -/
def MtD (K : PySem.W.Frag) (r : V → List V → Hp → VK → Prop) (g : Sl → List Sl → Store → Out Sl) : Prop :=
  ∀ (G : Gh) (μ : Store) (H : Hp) (σ : L2.St) (W : WX) (s : Sl) (ss : List Sl) (x : V) (vs : List V) (Q : VK), Rel K G μ H → SlRep K G H s x → SlReps K G H ss vs → Post (SlRep K) K W σ G H (g s ss μ) Q → r x vs H Q
def isLst (s : Sl) (μ : Store) : Bool := match s.get μ with
  | some (.lst _) => true
  | _ => false
def isDct (s : Sl) (μ : Store) : Bool := match s.get μ with
  | some (.dK _ _) => true
  | some (.dT _ _) => true
  | _ => false
def fMeth (ty : Sl → Store → Bool) (fo : FE) (fa : FA) (g : Sl → List Sl → Store → Out Sl) : FE := fun ρ μ => (fo ρ μ).bind fun s μ1 => if ty s μ1 = true then (fa ρ μ1).bind fun ss μ2 => g s ss μ2 else .stuck
theorem Rel.tyLst {K : PySem.W.Frag} {G : Gh} {H : Hp} {μ : Store} (R : Rel K G μ H) {s : Sl} {v : V} (h : SlRep K G H s v) (e : isLst s μ = true) : tyV K "list" v H := by
  unfold isLst at e
  cases q : s.get μ with
  | none => rw [q] at e; cases e
  | some d =>
    rw [q] at e
    cases d with
    | lst ds =>
      obtain ⟨a, xs, rfl, h1, _⟩ := (R.now h q).sql
      exact .inl ⟨rfl, xs, h1⟩
    | _ => cases e
theorem Rel.tyDct {K : PySem.W.Frag} {G : Gh} {H : Hp} {μ : Store} (R : Rel K G μ H) {s : Sl} {v : V} (h : SlRep K G H s v) (e : isDct s μ = true) : tyV K "dict" v H := by
  unfold isDct at e
  cases q : s.get μ with
  | none => rw [q] at e; cases e
  | some d =>
    rw [q] at e
    have n := R.now h q
    cases d with
    | dK ks vs =>
      obtain ⟨a, xs, rfl, h1, _⟩ := n.dK
      exact .inr (.inr (.inl ⟨rfl, .inl ⟨_, h1⟩⟩))
    | dT ks vs =>
      cases n with
      | rep h0 => cases h0 with
        | dT f h2 r => exact .inr (.inr (.inl ⟨rfl, .inr ⟨_, h2⟩⟩))
      | at_ h0 => cases h0 with
        | dT h2 r => exact .inr (.inr (.inl ⟨rfl, .inr ⟨_, h2⟩⟩))
    | _ => cases e
section
variable {X : Cx} {P : PX} {W : WX} {o e : Expr} {es : List Expr} {fo : FE} {fg : FA} {name : Str} {apos cpos : Pos} {id : String} {r : V → List V → Hp → VK → Prop} {g : Sl → List Sl → Store → Out Sl}
theorem de_lm (slot : Slot "list" name id) (hty : typeOf (.builtin id) = pure (.type "method_descriptor")) (hm : MtR X id r) (hd : MtD X.K r g) (ho : DE X P W o fo) (ha : DA X P W (e :: es) fg)
    (hbase : attributeBase o name X.env (eval o X.env) = eval o X.env := by rfl)
    (hfew : ((backTo cpos (starEach (e :: es) X.env)).all (fun x => !x.1) && (backToKw cpos (keywordEach [] X.env)).all (fun x => x.1.isSome)
      && decide ((e :: es).length + ([] : List Keyword).length + (if ([] : List Keyword).isEmpty then 0 else 1) < 30)) = true := by rfl)
    (hline : (apos.endLine == cpos.line) = true := by rfl) (hs : starEach (e :: es) X.env = (false, eval e X.env) :: starEach es X.env := by rfl) (hplain : (backTo cpos (starEach es X.env)).any (·.1) = false := by rfl) :
    DE X P W (.Call (.Attribute o name apos) (e :: es) [] cpos) (fMeth isLst fo fg g) := (pe_bm PySem.F.plainAttrs_list slot hty hm ho ha.pa hbase hfew hline hs hplain).to fun σ H Q h => by
  obtain ⟨G, μ, ρ, he, h⟩ := h
  refine ⟨G, μ, ρ, he, Post.bind h fun s μ1 x G1 H1 x1 R1 r1 h1 => ?_⟩
  by_cases hl : isLst s μ1 = true
  · rw [if_pos hl] at h1
    refine ⟨R1.tyLst r1 hl, G1, μ1, ρ, he.step x1 R1, Post.bind h1 fun ss μ2 vs G2 H2 x2 R2 r2 h2 => ?_⟩
    exact hd G2 μ2 H2 σ W s ss x vs Q R2 (R1.sl x2 r1) r2 h2
  · rw [if_neg hl] at h1; exact h1.elim
theorem de_lm0 (slot : Slot "list" name id) (hty : typeOf (.builtin id) = pure (.type "method_descriptor")) (hm : MtR X id r) (hd : MtD X.K r g) (ho : DE X P W o fo)
    (hbase : attributeBase o name X.env (eval o X.env) = eval o X.env := by rfl) (hline : (apos.endLine == cpos.line) = true := by rfl) : DE X P W (.Call (.Attribute o name apos) [] [] cpos) (fMeth isLst fo fNil g) := (pe_bm0 PySem.F.plainAttrs_list slot hty hm ho hbase hline).to fun σ H Q h => by
  obtain ⟨G, μ, ρ, he, h⟩ := h
  refine ⟨G, μ, ρ, he, Post.bind h fun s μ1 x G1 H1 x1 R1 r1 h1 => ?_⟩
  by_cases hl : isLst s μ1 = true
  · rw [if_pos hl] at h1
    exact ⟨R1.tyLst r1 hl, hd G1 μ1 H1 σ W s [] x [] Q R1 r1 .nil h1⟩
  · rw [if_neg hl] at h1; exact h1.elim
end
section
variable {K : PySem.W.Frag}
/-- the content of a cell that is a list -/
def lstAt (s : Sl) (μ : Store) (k : Nat → List D → Out Sl) : Out Sl := match s with
  | .c n => match (μ[n]?).join with
    | some (.lst ds) => k n ds
    | _ => .stuck
  | _ => .stuck
theorem lstAt_ok {G : Gh} {H : Hp} {μ : Store} {W : WX} {σ : L2.St} {s : Sl} {x : V} {k : Nat → List D → Out Sl} {Q : VK} (R : Rel K G μ H) (h : SlRep K G H s x) (p : Post (SlRep K) K W σ G H (lstAt s μ k) Q) :
    ∃ n ds a xs, x = .ref a ∧ G.am[n]? = some (some a) ∧ H a = some (.lst xs) ∧ RepL K G.F H ds xs ∧ Post (SlRep K) K W σ G H (k n ds) Q := by
  unfold lstAt at p
  match s with
  | .c n =>
    cases e : (μ[n]?).join with
    | none => simp only [e] at p; exact p.elim
    | some d =>
      simp only [e] at p
      obtain ⟨a, rfl, ea, ra⟩ := R.cellOf h e
      cases ra with
      | lst h1 r1 => exact ⟨n, _, a, _, rfl, ea, h1, r1, p⟩
      | _ => exact p.elim
def appendG (s : Sl) (ss : List Sl) (μ : Store) : Out Sl := match ss with
  | [.v d] => lstAt s μ fun n ds => if ds.length < lim then .ok (.v .non) (μ.set n (some (.lst (ds ++ [d])))) else .stuck
  | _ => .stuck
theorem mtd_append : MtD K rAppend appendG := by
  intro G μ H σ W s ss x vs Q R rs rss p
  unfold appendG at p
  match ss, vs, rss with
  | [.v d], [y], .cons ry .nil =>
    obtain ⟨n, ds, a, xs, rfl, ea, h1, r1, p⟩ := lstAt_ok R rs p
    by_cases hl : ds.length < lim
    · rw [if_pos hl] at p
      exact ⟨a, xs, y, rfl, rfl, h1, by rw [← r1.length, sizeLine_lim]; exact hl, Post.putL R p ea (r1.append (.cons ry .nil)) .non⟩
    · rw [if_neg hl] at p; exact p.elim
def extendG (s : Sl) (ss : List Sl) (μ : Store) : Out Sl := match ss with
  | [t] => lstAt s μ fun n ds => match t.get μ with
    | some (.lst es) => if ds.length + es.length ≤ lim then .ok (.v .non) (μ.set n (some (.lst (ds ++ es)))) else .stuck
    | _ => .stuck
  | _ => .stuck
theorem mtd_extend : MtD K rExtend extendG := by
  intro G μ H σ W s ss x vs Q R rs rss p
  unfold extendG at p
  match ss, vs, rss with
  | [t], [y], .cons ry .nil =>
    obtain ⟨n, ds, a, xs, rfl, ea, h1, r1, p⟩ := lstAt_ok R rs p
    cases e : t.get μ with
    | none => simp only [e] at p; exact p.elim
    | some d =>
      simp only [e] at p
      have rn := R.now ry e
      cases d with
      | lst es =>
        simp only at p
        by_cases hl : ds.length + es.length ≤ lim
        · rw [if_pos hl] at p
          obtain ⟨b, ys, rfl, h2, r2⟩ := rn.lst
          exact ⟨a, b, xs, ys, rfl, rfl, h1, h2, by rw [← r1.length, ← r2.length, sizeLine_lim]; exact hl, Post.putL R p ea (r1.append r2) .non⟩
        · rw [if_neg hl] at p; exact p.elim
      | _ => exact p.elim
def popG (s : Sl) (ss : List Sl) (μ : Store) : Out Sl := match ss with
  | [] => lstAt s μ fun n ds => match ds[ds.length - 1]? with
    | some d => .ok (.v d) (μ.set n (some (.lst ds.dropLast)))
    | none => .stuck
  | _ => .stuck
theorem mtd_pop : MtD K rPop popG := by
  intro G μ H σ W s ss x vs Q R rs rss p
  unfold popG at p
  match ss, vs, rss with
  | [], [], .nil =>
    obtain ⟨n, ds, a, xs, rfl, ea, h1, r1, p⟩ := lstAt_ok R rs p
    cases e : ds[ds.length - 1]? with
    | none => rw [e] at p; exact p.elim
    | some d =>
      rw [e] at p
      obtain ⟨v, ev, rv⟩ := r1.get e
      exact ⟨a, xs, v, rfl, rfl, h1, by rw [← r1.length]; exact ev, Post.putL R p ea r1.dropLast rv⟩
def popAtG (s : Sl) (ss : List Sl) (μ : Store) : Out Sl := match ss with
  | [.v (.int i)] => lstAt s μ fun n ds => match ixN ds.length i with
    | some k => match ds[k]? with
      | some d => if i.natAbs < 2 ^ 62 then .ok (.v d) (μ.set n (some (.lst (ds.eraseIdx k)))) else .stuck
      | none => .stuck
    | none => .stuck
  | _ => .stuck
theorem mtd_popAt : MtD K rPopAt popAtG := by
  intro G μ H σ W s ss x vs Q R rs rss p
  unfold popAtG at p
  match ss, vs, rss with
  | [.v (.int i)], [y], .cons ry .nil =>
    cases ry
    obtain ⟨n, ds, a, xs, rfl, ea, h1, r1, p⟩ := lstAt_ok R rs p
    cases e : ixN ds.length i with
    | none => rw [e] at p; exact p.elim
    | some k =>
      simp only [e] at p
      cases e2 : ds[k]? with
      | none => rw [e2] at p; exact p.elim
      | some d =>
        simp only [e2] at p
        by_cases hl : i.natAbs < 2 ^ 62
        · rw [if_pos hl] at p
          obtain ⟨v, ev, rv⟩ := r1.get e2
          obtain ⟨q1, q2, q3, q4⟩ := ixN_seq e
          exact ⟨a, xs, i, k, v, rfl, rfl, h1, by omega, by omega, by rw [← r1.length]; exact q1, ev, Post.putL R p ea (r1.eraseIdx k) rv⟩
        · rw [if_neg hl] at p; exact p.elim
def reverseG (s : Sl) (ss : List Sl) (μ : Store) : Out Sl := match ss with
  | [] => lstAt s μ fun n ds => .ok (.v .non) (μ.set n (some (.lst ds.reverse)))
  | _ => .stuck
theorem mtd_reverse : MtD K rReverse reverseG := by
  intro G μ H σ W s ss x vs Q R rs rss p
  unfold reverseG at p
  match ss, vs, rss with
  | [], [], .nil =>
    obtain ⟨n, ds, a, xs, rfl, ea, h1, r1, p⟩ := lstAt_ok R rs p
    exact ⟨a, xs, rfl, rfl, h1, Post.putL R p ea r1.reverse .non⟩
def countG (s : Sl) (ss : List Sl) (μ : Store) : Out Sl := match s.get μ, ss with
  | some (.lst ds), [.v (.int i)] => match intsOf ds with
    | some ns => okV (.int (ns.count i : Nat)) μ
    | none => .stuck
  | _, _ => .stuck
theorem mtd_count : MtD K (rCntI K) countG := by
  intro G μ H σ W s ss x vs Q R rs rss p
  unfold countG at p
  cases e : s.get μ with
  | none => simp only [e] at p; exact p.elim
  | some d =>
    have rn := R.now rs e
    simp only [e] at p
    split at p
    · rename_i ds i heq
      cases heq
      cases e2 : intsOf ds with
      | none => rw [e2] at p; exact p.elim
      | some ns =>
        rw [e2] at p
        match vs, rss with
        | [y], .cons ry .nil =>
          cases ry
          obtain ⟨a, xs, rfl, h1, r1⟩ := rn.sql
          rw [intsOf_eq e2] at r1
          rw [r1.ints] at h1
          exact ⟨a, ns, i, rfl, rfl, h1, Post.val R p (.int _)⟩
    · exact p.elim
end
end DL

namespace DL
open PySem PySem.Spec PyProof.Rows L2

/-! ### xs[i] = v, x op= e -/
/-- o[i] = v by contents: what the store is behind it -/
abbrev FSet := Sl → D → D → Store → Option Store
def SetD (K : PySem.W.Frag) (t : TSet) (f : FSet) : Prop := ∀ (G : Gh) (μ : Store) (H : Hp) (s : Sl) (i d : D) (o iv v : V) (Q : Hp → Prop), Rel K G μ H → SlRep K G H s o → Rep K G.F H i iv → Rep K G.F H d v → ∀ μ', f s i d μ = some μ' →
  (∀ H', Ext G H G H' → Rel K G μ' H' → Q H') → t o iv v H Q
def setL : FSet := fun s i d μ => match s, i with
  | .c n, .int k => match (μ[n]?).join with
    | some (.lst ds) => match ixN ds.length k with
      | some j => some (μ.set n (some (.lst (ds.set j d))))
      | none => none
    | _ => none
  | _, _ => none
theorem setd_list {K : PySem.W.Frag} : SetD K rSetL setL := by
  intro G μ H s i d o iv v Q R rs ri rd μ' e q
  unfold setL at e
  split at e
  · rename_i n k
    cases ri
    cases e1 : (μ[n]?).join with
    | none => simp only [e1] at e; cases e
    | some c =>
      simp only [e1] at e
      obtain ⟨a, rfl, ea, ra⟩ := R.cellOf rs e1
      cases ra with
      | @lst ds xs h1 r1 =>
        simp only at e
        cases e2 : ixN ds.length k with
        | none => rw [e2] at e; cases e
        | some j =>
          rw [e2] at e
          cases e
          exact ⟨a, xs, k, j, rfl, rfl, h1, by rw [← r1.length]; exact e2, q _ (Ext.put ea) (R.put ea (.lst upd_same (RepL.up (F := G.F) R ea (r1.set rd j))))⟩
      | _ => cases e
  · cases e
section
variable {X : Cx} {P : PX} {W : WX} {a b c e o i : Expr} {es : List Expr} {st : Stmt} {sts : List Stmt} {fa fb fc fo fi : FE} {ft fu : FT} {fg : FA} {f g : FS} {pos p : Pos}
/-- o[i] = .. as a target -/
def gSubF (fo fi : FE) (t : FSet) : FG := fun s ρ μ => match fo ρ μ with
  | .ok o μ1 => match fi ρ μ1 with
    | .ok (.v i) μ2 => match s.get μ2 with
      | some d => match s with
        | .v _ => match t o i d μ2 with
          | some μ3 => some (ρ, μ3)
          | none => none
        | _ => none
      | none => none
    | _ => none
  | _ => none
theorem dg_sub {t : TSet} {f : FSet} (hs : PSet X t) (hd : SetD X.K t f) (ho : DE X P W o fo) (hi : DE X P W i fi)
    (ha : ∀ v, assign (.Subscript o i pos) X.env v = (do
      let ov ← holding [v] (eval o X.env)
      let iv ← holding [v, ov] (eval i X.env)
      standAt pos
      holding [v, ov, iv] (setItem ov iv v)
      release [v, ov, iv] []) := by intro _; rfl) : DG X P (.Subscript o i pos) (gSubF fo fi f) := (pg_sub ho hi hs ha).to fun v σ H Q h => by
  obtain ⟨G, μ, ρ, s, he, r, h⟩ := h
  unfold gSubF at h
  cases e1 : fo ρ μ with
  | stuck => rw [e1] at h; exact h.elim
  | exc _ _ => rw [e1] at h; exact h.elim
  | ok o1 μ1 =>
    simp only [e1] at h
    refine ⟨G, μ, ρ, he, ?_⟩
    rw [e1]
    intro ov G1 H1 x1 R1 r1
    cases e2 : fi ρ μ1 with
    | stuck => rw [e2] at h; exact h.elim
    | exc _ _ => rw [e2] at h; exact h.elim
    | ok i1 μ2 =>
      simp only [e2] at h
      refine ⟨G1, μ1, ρ, he.step x1 R1, ?_⟩
      rw [e2]
      intro iv G2 H2 x2 R2 r2
      match i1, s, r, r2, h with
      | .v i1, .v d, r, r2, h =>
        have r' := R1.rep x2 (he.rel.rep x1 r)
        simp only [Sl.get] at h
        cases e3 : f o1 i1 d μ2 with
        | none => rw [e3] at h; exact h.elim
        | some μ3 =>
          simp only [e3] at h
          exact hd G2 μ2 H2 o1 i1 d ov iv v _ R2 (R1.sl x2 r1) r2 r' μ3 e3 fun H3 x3 R3 => h _ G2 H3 (x1.trans (x2.trans x3)) R3 (R2.env x3 (R1.env x2 (he.rel.env x1 he.env)))
      | .v i1, .c n, r, r2, h =>
        simp only [Sl.get] at h
        cases e4 : (μ2[n]?).join with
        | none => simp only [e4] at h
        | some d => simp only [e4] at h
      | .v i1, .x _, r, r2, h => exact h.elim
theorem dg_subL (ho : DE X P W o fo) (hi : DE X P W i fi)
    (ha : ∀ v, assign (.Subscript o i pos) X.env v = (do
      let ov ← holding [v] (eval o X.env)
      let iv ← holding [v, ov] (eval i X.env)
      standAt pos
      holding [v, ov, iv] (setItem ov iv v)
      release [v, ov, iv] []) := by intro _; rfl) : DG X P (.Subscript o i pos) (gSubF fo fi setL) := dg_sub set_list setd_list ho hi ha
/-- in place -/
theorem ds_aug (j : Nat) {x : Str} {op : Operator} {ti : TIp} {gg : Sl → Sl → Store → Out Sl} {pos' : Pos} (hN : X.N.Nodup) (ho : PIp X op ti) (hg : OpD X.K ti gg) (ha : DE X P W a fa) (hi : X.N[j]? = some x := by rfl) (hx : Loc X.env.scope x := by first | exact Or.inl rfl | exact Or.inr rfl)
    (hf : X.fn x = true ∨ X.env.scope.names.lookup x = some .local := by first | exact .inl rfl | exact .inr rfl) : DS X P W (.AugAssign (.Name x pos') op a pos) (sAug j fa gg) := (ps_aug hN hi hx ha ho hf).to fun D σ H h => by
  obtain ⟨G, μ, ρ, he, h⟩ := h
  unfold sAug at h
  cases q : ρ[j]? with
  | none => rw [q] at h; exact h.elim
  | some o =>
    cases o with
    | none => rw [q] at h; exact h.elim
    | some s =>
      simp only [q] at h
      obtain ⟨v, e1, r⟩ := he.env.has j s q
      refine ⟨v, e1, G, μ, ρ, he, h.bind he fun t μ1 y G1 H1 x1 R1 r1 h1 => ?_⟩
      have he1 := he.step x1 R1
      refine hg G1 μ1 H1 σ W s t v y _ R1 (he.rel.sl x1 r) r1 (h1.bind he1 fun z μ2 w G2 H2 x2 R2 r2 h2 => ?_)
      exact h2.nx R2 ((he1.rel.env x2 he1.env).set r2 j)
theorem pip_of {op : Operator} {r : R2} (h : OpR X (inplaceOp op) r) : PIp X op r := fun pins s σ H x y v u Q I rx ry q => h pins s σ H x y v u Q I rx ry q
theorem opd_iadd {K : PySem.W.Frag} : OpD K (ipI fun i j => i + j) (g2 fun a b μ => match a, b with
  | .int i, .int j => okV (.int (i + j)) μ
  | _, _ => .stuck) := by
  refine opd fun G μ H σ W a b x y Q R ra rb p => ?_
  split at p
  · rw [ra.int, rb.int]; exact ⟨_, _, rfl, rfl, Post.val R p (.int _)⟩
  · exact p.elim
abbrev iaddG : Sl → Sl → Store → Out Sl := g2 fun a b μ => match a, b with
  | .int i, .int j => okV (.int (i + j)) μ
  | _, _ => .stuck
abbrev isubG : Sl → Sl → Store → Out Sl := g2 fun a b μ => match a, b with
  | .int i, .int j => okV (.int (i - j)) μ
  | _, _ => .stuck
theorem opd_isub {K : PySem.W.Frag} : OpD K (ipI fun i j => i - j) isubG := by
  refine opd fun G μ H σ W a b x y Q R ra rb p => ?_
  split at p
  · rw [ra.int, rb.int]; exact ⟨_, _, rfl, rfl, Post.val R p (.int _)⟩
  · exact p.elim
theorem ds_iadd (j : Nat) {x : Str} {pos' : Pos} (hN : X.N.Nodup) (ha : DE X P W a fa) (hi : X.N[j]? = some x := by rfl) (hx : Loc X.env.scope x := by first | exact Or.inl rfl | exact Or.inr rfl)
    (hf : X.fn x = true ∨ X.env.scope.names.lookup x = some .local := by first | exact .inl rfl | exact .inr rfl) : DS X P W (.AugAssign (.Name x pos') .Add a pos) (sAug j fa iaddG) := ds_aug j hN ip_add opd_iadd ha hi hx hf
theorem ds_isub (j : Nat) {x : Str} {pos' : Pos} (hN : X.N.Nodup) (ha : DE X P W a fa) (hi : X.N[j]? = some x := by rfl) (hx : Loc X.env.scope x := by first | exact Or.inl rfl | exact Or.inr rfl)
    (hf : X.fn x = true ∨ X.env.scope.names.lookup x = some .local := by first | exact .inl rfl | exact .inr rfl) : DS X P W (.AugAssign (.Name x pos') .Sub a pos) (sAug j fa isubG) := ds_aug j hN ip_sub opd_isub ha hi hx hf
end

/-! ### what is walked -/
inductive ItD where
  | vals (ds : List D)
  | cell (n : Nat)
def ItD.step (it : ItD) (i : Nat) (μ : Store) : Option (Option D) := match it with
  | .vals ds => some ds[i]?
  | .cell n => match (μ[n]?).join with
    | some (.lst ds) => some ds[i]?
    | _ => none
def ItOk (K : PySem.W.Frag) (G : Gh) (H : Hp) (it : ItD) (J : It) : Prop := ∀ G' μ' H' i, Ext G H G' H' → Rel K G' μ' H' → match it.step i μ' with
  | none => True
  | some none => J.stop i H'
  | some (some d) => J.go i H' ∧ ∀ x H'', J.yld i H' x H'' → ∃ G'', Ext G' H' G'' H'' ∧ Rel K G'' μ' H'' ∧ Rep K G''.F H'' d x
abbrev FI := Env → Store → Out ItD
def TDI (K : PySem.W.Frag) (P : PX) (W : WX) (f : FI) : TI := fun σ H R => ∃ G μ ρ, Here K P G μ ρ σ H ∧ Post (ItOk K) K W σ G H (f ρ μ) R
abbrev DI (X : Cx) (P : PX) (W : WX) (tg e : Expr) (f : FI) : Prop := PI X tg e (TDI X.K P W f)
theorem _root_.L2.PI.to {X : Cx} {tg e : Expr} {t t' : TI} (h : PI X tg e t) (w : ∀ σ H Q, t' σ H Q → t σ H Q) : PI X tg e t' := ⟨fun pins s σ H Q I q => h.run pins s σ H Q I (w σ H Q q)⟩
theorem _root_.L2.PI.or {X : Cx} {tg e : Expr} {t t' : TI} (h : PI X tg e t) (h' : PI X tg e t') : PI X tg e (fun σ H R => t σ H R ∨ t' σ H R) := ⟨fun pins s σ H Q I q => q.elim (h.run pins s σ H Q I) (h'.run pins s σ H Q I)⟩
section
variable {K : PySem.W.Frag} {G : Gh} {H : Hp} {μ : Store}
theorem Itl.ok {a : Addr} {xs : List V} {ds : List D} (R : Rel K G μ H) (hs : ∀ G' μ' H', Ext G H G' H' → Rel K G' μ' H' → SqL K H' a xs) (r : RepL K G.F H ds xs) : ItOk K G H (.vals ds) (Itl K a) := by
  intro G' μ' H' i x R'
  have r' := R.repL x r
  have s' := hs G' μ' H' x R'
  show match some ds[i]? with
    | none => True
    | some none => _
    | some (some d) => _
  cases e : ds[i]? with
  | none => exact ⟨xs, s', by rw [← r.length]; exact List.getElem?_eq_none_iff.mp e⟩
  | some d =>
    obtain ⟨v, ev, rv⟩ := r'.get e
    refine ⟨⟨xs, v, s', ev⟩, fun y H'' ⟨e1, e2⟩ => ?_⟩
    subst e1
    have e3 := e2 xs s'
    rw [ev] at e3
    cases e3
    exact ⟨G', .refl, R', rv⟩
theorem Itt.ok {a : Addr} {xs : List V} {ds : List D} (R : Rel K G μ H) (hs : TupAt K H a xs) (r : RepL K G.F H ds xs) : ItOk K G H (.vals ds) (Itt K a) := by
  intro G' μ' H' i x R'
  have r' := R.repL x r
  have s' := (tupAt_mono (R.hk x) hs).sq
  show match some ds[i]? with
    | none => True
    | some none => _
    | some (some d) => _
  cases e : ds[i]? with
  | none => exact ⟨xs, s', by rw [← r.length]; exact List.getElem?_eq_none_iff.mp e⟩
  | some d =>
    obtain ⟨v, ev, rv⟩ := r'.get e
    refine ⟨⟨xs, v, s', ev⟩, fun y H'' ⟨e1, e2⟩ => ?_⟩
    subst e1
    have e3 := e2 xs s'
    rw [ev] at e3
    cases e3
    exact ⟨G', .refl, R', rv⟩
theorem Itl.okC {a : Addr} {n : Nat} (R : Rel K G μ H) (ha : G.am[n]? = some (some a)) : ItOk K G H (.cell n) (Itl K a) := by
  intro G' μ' H' i x R'
  unfold ItD.step
  simp only
  cases e : (μ'[n]?).join with
  | none => trivial
  | some d =>
    cases d with
    | lst ds =>
      simp only
      have hs : SlRep K G' H' (.c n) (.ref a) := R.sl x (s := .c n) (v := .ref a) ⟨(List.getElem?_eq_some_iff.mp ha).1, fun b e => by rw [ha] at e; cases e; rfl⟩
      obtain ⟨b, eb, em, ra⟩ := R'.cellOf hs e
      cases eb
      cases ra with
      | @lst _ xs h1 r1 =>
        cases e2 : ds[i]? with
        | none => exact ⟨xs, .of h1, by rw [← r1.length]; exact List.getElem?_eq_none_iff.mp e2⟩
        | some d =>
          obtain ⟨v, ev, rv⟩ := r1.get e2
          refine ⟨⟨xs, v, .of h1, ev⟩, fun y H'' ⟨e1, e3⟩ => ?_⟩
          subst e1
          have e4 := e3 xs (.of h1)
          rw [ev] at e4
          cases e4
          exact ⟨G', .refl, R', rv⟩
    | _ => trivial
end
/-- a row that is walked -/
def fSeq (f : FE) : FI := fun ρ μ => (f ρ μ).bind fun s μ1 => match s with
  | .v (.lst ds) => .ok (.vals ds) μ1
  | .v (.tup ds) => .ok (.vals ds) μ1
  | .v (.fz ds) => .ok (.vals ds) μ1
  | .c n => match (μ1[n]?).join with
    | some (.lst _) => .ok (.cell n) μ1
    | _ => .stuck
  | _ => .stuck
section
variable {X : Cx} {P : PX} {W : WX} {a b c e tg : Expr} {es : List Expr} {fa fb fc : FE} {ft fu : FT} {fg : FA} {f g : FS} {pos p : Pos}
theorem di_seq (ha : DE X P W a fa) : DI X P W tg a (fSeq fa) := ((pi_list ha).or (pi_tup ha)).to fun σ H Rr h => by
  obtain ⟨G, μ, ρ, he, h⟩ := h
  have h' : Post (ItOk X.K) X.K W σ G H ((fa ρ μ).bind fun s μ1 => match s with
    | .v (.lst ds) => .ok (.vals ds) μ1
    | .v (.tup ds) => .ok (.vals ds) μ1
    | .v (.fz ds) => .ok (.vals ds) μ1
    | .c n => match (μ1[n]?).join with
      | some (.lst _) => .ok (.cell n) μ1
      | _ => .stuck
    | _ => .stuck) Rr := h
  by_cases ht : ∃ ds μ1, fa ρ μ = .ok (.v (.tup ds)) μ1
  · refine .inr ⟨G, μ, ρ, he, Post.bindE h' fun s μ1 x G1 H1 x1 R1 r1 h1 e0 => ?_⟩
    obtain ⟨ds, μ2, e⟩ := ht
    rw [e] at e0
    cases e0
    cases r1 with
    | tup h2 r2 => exact ⟨_, rfl, ⟨_, h2.sq⟩, h1 _ G1 H1 .refl R1 (Itt.ok R1 h2 r2)⟩
  · refine .inl ⟨G, μ, ρ, he, Post.bindE h' fun s μ1 x G1 H1 x1 R1 r1 h1 e0 => ?_⟩
    match s, r1, h1, e0 with
    | .v (.lst ds), r1, h1, e0 =>
      cases (show Rep X.K G1.F H1 (.lst ds) x from r1) with
      | lst f h2 r2 => exact ⟨_, rfl, ⟨_, .of h2⟩, h1 _ G1 H1 .refl R1 (Itl.ok R1 (fun G' μ' H' x' R' => .of (R1.hk x' _ _ h2 (.inl f))) r2)⟩
    | .v (.fz ds), r1, h1, e0 =>
      cases (show Rep X.K G1.F H1 (.fz ds) x from r1) with
      | fz h2 r2 => exact ⟨_, rfl, ⟨_, h2.sq⟩, h1 _ G1 H1 .refl R1 (Itl.ok R1 (fun G' μ' H' x' R' => (fzAt_mono (R1.hk x') h2).sq) r2)⟩
    | .v (.tup ds), _, _, e0 => exact absurd ⟨ds, μ1, e0⟩ ht
    | .c n, r1, h1, e0 =>
      cases e : (μ1[n]?).join with
      | none => simp only [e] at h1; exact h1.elim
      | some d =>
        simp only [e] at h1
        obtain ⟨a, rfl, ea, ra⟩ := R1.cellOf r1 e
        cases ra with
        | lst h2 r2 => exact ⟨_, rfl, ⟨_, .of h2⟩, h1 _ G1 H1 .refl R1 (Itl.okC R1 ea)⟩
        | _ => exact h1.elim
/-- range -/
def rangeD (lo : Int) (n : Nat) : List D := (List.range n).map fun i => D.int (lo + (i : Nat))
theorem Itr.ok {K : PySem.W.Frag} {G : Gh} {H : Hp} (lo : Int) (n : Nat) : ItOk K G H (.vals (rangeD lo n)) (Itr lo n) := by
  intro G' μ' H' i x R'
  show match some (rangeD lo n)[i]? with
    | none => True
    | some none => _
    | some (some d) => _
  unfold rangeD
  rw [List.getElem?_map]
  by_cases hi : i < n
  · rw [List.getElem?_range hi]
    exact ⟨hi, fun y H'' ⟨e1, e2⟩ => by subst e1 e2; exact ⟨G', .refl, R', .int _⟩⟩
  · rw [List.getElem?_eq_none (by simpa using hi)]
    exact Nat.le_of_not_lt hi
def fRng1 (f : FA) : FI := fun ρ μ => (f ρ μ).bind fun ss μ1 => match ss with
  | [.v (.int j)] => if j.natAbs < 2 ^ 61 then .ok (.vals (rangeD 0 j.toNat)) μ1 else .stuck
  | _ => .stuck
def fRng2 (f : FA) : FI := fun ρ μ => (f ρ μ).bind fun ss μ1 => match ss with
  | [.v (.int i), .v (.int j)] => if i.natAbs < 2 ^ 61 ∧ j.natAbs < 2 ^ 61 then .ok (.vals (rangeD i (j - i).toNat)) μ1 else .stuck
  | _ => .stuck
theorem di_range1 (hg : Gl X "range") (hm : X.mg "range" = none) (ha : DA X P W [a] fg) (hs : starEach [a] X.env = [(false, eval a X.env)] := by rfl) : DI X P W tg (.Call (.Name "range" p) [a] [] pos) (fRng1 fg) := (pi_range1 hg hm ha.pa hs).to fun σ H Rr h => by
  obtain ⟨G, μ, ρ, he, h⟩ := h
  refine ⟨G, μ, ρ, he, Post.bind h fun ss μ1 vs G1 H1 x1 R1 r1 h1 => ?_⟩
  match ss, vs, r1, h1 with
  | [.v (.int j)], [_], .cons q .nil, h1 =>
    cases q
    by_cases hl : j.natAbs < 2 ^ 61
    · simp only [if_pos hl] at h1
      exact ⟨j, rfl, by omega, by omega, h1 _ G1 H1 .refl R1 (Itr.ok 0 _)⟩
    · simp only [if_neg hl] at h1; exact h1.elim
theorem di_range2 (hg : Gl X "range") (hm : X.mg "range" = none) (ha : DA X P W [a, b] fg) (hs : starEach [a, b] X.env = [(false, eval a X.env), (false, eval b X.env)] := by rfl) (hs2 : starEach [b] X.env = [(false, eval b X.env)] := by rfl) :
    DI X P W tg (.Call (.Name "range" p) [a, b] [] pos) (fRng2 fg) := (pi_range2 hg hm ha.pa hs hs2).to fun σ H Rr h => by
  obtain ⟨G, μ, ρ, he, h⟩ := h
  refine ⟨G, μ, ρ, he, Post.bind h fun ss μ1 vs G1 H1 x1 R1 r1 h1 => ?_⟩
  match ss, vs, r1, h1 with
  | [.v (.int i), .v (.int j)], [_, _], .cons q (.cons q2 .nil), h1 =>
    cases q
    cases q2
    by_cases hl : i.natAbs < 2 ^ 61 ∧ j.natAbs < 2 ^ 61
    · simp only [if_pos hl] at h1
      exact ⟨i, j, rfl, ⟨by omega, by omega, by omega, by omega⟩, h1 _ G1 H1 .refl R1 (Itr.ok i _)⟩
    · simp only [if_neg hl] at h1; exact h1.elim
/-- enumerate -/
def enumD : Nat → List D → List D
  | _, [] => []
  | i, d :: ds => .tup [.int (i : Nat), d] :: enumD (i + 1) ds
theorem enumD_get : ∀ (ds : List D) (k i : Nat), (enumD k ds)[i]? = ds[i]?.map fun d => D.tup [.int ((k + i : Nat) : Int), d]
  | [], _, _ => by simp [enumD]
  | d :: ds, k, 0 => by simp [enumD]
  | d :: ds, k, i + 1 => by
    show (enumD (k + 1) ds)[i]? = _
    rw [enumD_get ds (k + 1) i]
    rw [show k + 1 + i = k + (i + 1) by omega]
    rfl
def fEnum (f : FA) : FI := fun ρ μ => (f ρ μ).bind fun ss μ1 => match ss with
  | [.v (.lst ds)] => .ok (.vals (enumD 0 ds)) μ1
  | _ => .stuck
theorem di_enum {elts : List Expr} {kk : Nat} {tpos : Pos} (hg : Gl X "enumerate") (hm : X.mg "enumerate" = none) (ha : DA X P W [a] fg) (hs : starEach [a] X.env = [(false, eval a X.env)] := by rfl) :
    DI X P W (.Tuple elts kk tpos) (.Call (.Name "enumerate" p) [a] [] pos) (fEnum fg) := (pi_enum hg hm ha.pa hs).to fun σ H Rr h => by
  obtain ⟨G, μ, ρ, he, h⟩ := h
  refine ⟨G, μ, ρ, he, Post.bind h fun ss μ1 vs G1 H1 x1 R1 r1 h1 => ?_⟩
  match ss, vs, r1, h1 with
  | [.v (.lst ds)], [_], .cons q .nil, h1 =>
    cases q with
    | @lst _ a xs f h2 r2 =>
      refine ⟨a, xs, rfl, .of h2, h1 _ G1 H1 .refl R1 fun G' μ' H' i x' R' => ?_⟩
      have h2' := R1.hk x' _ _ h2 (.inl f)
      have r' := R1.repL x' r2
      show match some (enumD 0 ds)[i]? with
        | none => True
        | some none => _
        | some (some d) => _
      rw [enumD_get, Nat.zero_add]
      cases e : ds[i]? with
      | none => exact ⟨xs, .of h2', by rw [← r'.length]; exact List.getElem?_eq_none_iff.mp e⟩
      | some d =>
        obtain ⟨v, ev, rv⟩ := r'.get e
        refine ⟨⟨xs, v, .of h2', ev⟩, fun y H'' ⟨T, z, e1, nT, e2, e3⟩ => ?_⟩
        have e4 := e3 xs (.of h2')
        rw [ev] at e4
        cases e4
        subst e1 e2
        exact ⟨G', Ext.new nT, R'.new nT, .tup (.inl upd_same) (.cons (.int _) (.cons (R'.rep (Ext.new nT) rv) .nil))⟩
end
end DL

namespace DL
open PySem PySem.Spec PyProof.Rows L2

/-! ### for -/
/-- what a loop goes on with behind a turn -/
def SOut.turn (o : SOut) (k : FS) : SOut := match o with
  | .go .nx ρ μ => k ρ μ
  | .go .ct ρ μ => k ρ μ
  | .go .bk ρ μ => .go .nx ρ μ
  | o => o
def sForL (tg : FG) (body : FS) : List D → FS
  | [], ρ, μ => .go .nx ρ μ
  | d :: ds, ρ, μ => match tg (.v d) ρ μ with
    | none => .stuck
    | some (ρ1, μ1) => (body ρ1 μ1).turn (sForL tg body ds)
def sForC (tg : FG) (body : FS) (n : Nat) : Nat → Nat → FS
  | 0, _, _, _ => .stuck
  | fuel + 1, i, ρ, μ => match (ItD.cell n).step i μ with
    | none => .stuck
    | some none => .go .nx ρ μ
    | some (some d) => match tg (.v d) ρ μ with
      | none => .stuck
      | some (ρ1, μ1) => (body ρ1 μ1).turn (sForC tg body n fuel (i + 1))
def sFor (fi : FI) (tg : FG) (body : FS) : FS := fun ρ μ => (fi ρ μ).st ρ fun it μ1 => match it with
  | .vals ds => sForL tg body ds ρ μ1
  | .cell n => match (μ1[n]?).join with
    | some (.lst ds) => sForC tg body n (ds.length + 1) 0 ρ μ1
    | _ => .stuck
section
variable {K : PySem.W.Frag} {G G1 : Gh} {H H1 : Hp} {μ : Store} {W : WX} {σ : L2.St} {ρ : Env} {D : Ends} {P : PX}
/-- the body of a turn -/
theorem Post1.turn {o : SOut} {k : FS} {N : L2.St → Hp → Prop} (h : Post1 K W G H (o.turn k) D) (hN : ∀ ρ μ σ' G' H', Ext G H G' H' → Rel K G' μ H' → EnvOk K G' H' ρ σ' → Post1 K W G' H' (k ρ μ) D → N σ' H') :
    Post1 K W G H o { D with nx := N, ct := N, bk := D.nx } := by
  cases o with
  | stuck => exact h
  | exc e ρ μ => exact h
  | go c ρ μ =>
    cases c with
    | nx => exact fun σ' G' H' x R e => hN ρ μ σ' G' H' x R e (Post1.shift h x)
    | ct => exact fun σ' G' H' x R e => hN ρ μ σ' G' H' x R e (Post1.shift h x)
    | bk => exact h
    | rt s => exact h
end
section
variable {X : Cx} {P : PX} {W : WX} {a b c e tg iter : Expr} {es : List Expr} {body sts : List Stmt} {fa fb fc : FE} {ft fu : FT} {fi : FI} {hg : FG} {f g : FS} {pos p : Pos}
theorem ds_for (hp : PassesOwn (model X.prog X.w) X.A X.env X.xe) (hc : X.calm = true) (hi : DI X P W tg iter fi) (hgt : DG X P tg hg) (hb : DSs X P W body f) (hs : ∀ x, foldedSetIterable iter X.env x = pure x := by intro _; rfl) : DS X P W (.For tg iter body [] pos) (sFor fi hg f) :=
  (ps_for hp hc hi hgt hb hs).to fun D σ H h => by
    obtain ⟨G, μ, ρ, he, h⟩ := h
    refine ⟨G, μ, ρ, he, h.bind he fun it μ1 J G1 H1 x1 R1 ok h1 => ?_⟩
    have he1 := he.step x1 R1
    cases it with
    | vals ds =>
      refine ⟨fun i m σ H => ∃ G μ ρ, Ext G1 H1 G H ∧ Here X.K P G μ ρ σ H ∧ m = ds.length - i ∧ i ≤ ds.length ∧ Post1 X.K W G H (sForL hg f (ds.drop i) ρ μ) D, ⟨ds.length, G1, μ1, ρ, .refl, he1, by simp, Nat.zero_le _, by simpa using h1⟩, ?_⟩
      rintro i m σ2 H2 ⟨G2, μ2, ρ2, x2, he2, rfl, hi2, h2⟩
      have st := ok G2 μ2 H2 i x2 he2.rel
      have st' : match some ds[i]? with
        | none => True
        | some none => J.stop i H2
        | some (some d) => J.go i H2 ∧ ∀ x H'', J.yld i H2 x H'' → ∃ G'', Ext G2 H2 G'' H'' ∧ Rel X.K G'' μ2 H'' ∧ Rep X.K G''.F H'' d x := st
      by_cases hlt : i < ds.length
      · rw [List.getElem?_eq_getElem hlt] at st'
        obtain ⟨go, yl⟩ := st'
        rw [List.drop_eq_getElem_cons hlt] at h2
        refine .inr ⟨go, fun σ' H' => ∃ G μ ρ, Ext G1 H1 G H' ∧ Here X.K P G μ ρ σ' H' ∧ Post1 X.K W G H' (sForL hg f (ds.drop (i + 1)) ρ μ) D, fun σ' H' ⟨G, μ, ρ, x, he, q⟩ => ⟨ds.length - (i + 1), by omega, G, μ, ρ, x, he, rfl, hlt, q⟩, fun x H'' y => ?_⟩
        obtain ⟨G3, x3, R3, r3⟩ := yl x H'' y
        refine ⟨G3, μ2, ρ2, .v ds[i], he2.step x3 R3, r3, ?_⟩
        have h2' : Post1 X.K W G2 H2 (match hg (.v ds[i]) ρ2 μ2 with
          | none => .stuck
          | some (ρ1, μ1) => (f ρ1 μ1).turn (sForL hg f (ds.drop (i + 1)))) D := h2
        cases e : hg (.v ds[i]) ρ2 μ2 with
        | none => rw [e] at h2'; exact h2'.elim
        | some q =>
          obtain ⟨ρ4, μ4⟩ := q
          simp only [e] at h2'
          intro σ4 G4 H4 x4 R4 e4
          have pex : P G4.ex := by rw [x4.ex, x3.ex]; exact he2.p
          refine ⟨G4, μ4, ρ4, ⟨pex, R4, e4⟩, Post1.turn (Post1.shift h2' (x3.trans x4)) fun ρ5 μ5 σ5 G5 H5 x5 R5 e5 h5 => ?_⟩
          exact ⟨G5, μ5, ρ5, x2.trans (x3.trans (x4.trans x5)), ⟨by rw [x5.ex]; exact pex, R5, e5⟩, h5⟩
      · have e : i = ds.length := by omega
        subst e
        rw [List.getElem?_eq_none (Nat.le_refl _)] at st'
        rw [List.drop_length] at h2
        exact .inl ⟨st', h2.nx he2.rel he2.env⟩
    | cell n =>
      have h1' : Post1 X.K W G1 H1 (match (μ1[n]?).join with
        | some (.lst ds) => sForC hg f n (ds.length + 1) 0 ρ μ1
        | _ => .stuck) D := h1
      cases e0 : (μ1[n]?).join with
      | none => simp only [e0] at h1'; exact h1'.elim
      | some d0 =>
        cases d0 with
        | lst ds =>
          simp only [e0] at h1'
          refine ⟨fun i m σ H => ∃ G μ ρ, Ext G1 H1 G H ∧ Here X.K P G μ ρ σ H ∧ Post1 X.K W G H (sForC hg f n m i ρ μ) D, ⟨ds.length + 1, G1, μ1, ρ, .refl, he1, h1'⟩, ?_⟩
          rintro i m σ2 H2 ⟨G2, μ2, ρ2, x2, he2, h2⟩
          have st := ok G2 μ2 H2 i x2 he2.rel
          cases m with
          | zero => exact h2.elim
          | succ m =>
            have h2' : Post1 X.K W G2 H2 (match (ItD.cell n).step i μ2 with
              | none => .stuck
              | some none => .go .nx ρ2 μ2
              | some (some d) => match hg (.v d) ρ2 μ2 with
                | none => .stuck
                | some (ρ1, μ1) => (f ρ1 μ1).turn (sForC hg f n m (i + 1))) D := h2
            cases e1 : (ItD.cell n).step i μ2 with
            | none => rw [e1] at h2'; exact h2'.elim
            | some o =>
              rw [e1] at st h2'
              cases o with
              | none => exact .inl ⟨st, h2'.nx he2.rel he2.env⟩
              | some d =>
                obtain ⟨go, yl⟩ := st
                refine .inr ⟨go, fun σ' H' => ∃ G μ ρ, Ext G1 H1 G H' ∧ Here X.K P G μ ρ σ' H' ∧ Post1 X.K W G H' (sForC hg f n m (i + 1) ρ μ) D, fun σ' H' ⟨G, μ, ρ, x, he, q⟩ => ⟨m, Nat.lt_succ_self _, G, μ, ρ, x, he, q⟩, fun x H'' y => ?_⟩
                obtain ⟨G3, x3, R3, r3⟩ := yl x H'' y
                refine ⟨G3, μ2, ρ2, .v d, he2.step x3 R3, r3, ?_⟩
                cases e : hg (.v d) ρ2 μ2 with
                | none => simp only [e] at h2'; exact h2'.elim
                | some q =>
                  obtain ⟨ρ4, μ4⟩ := q
                  simp only [e] at h2'
                  intro σ4 G4 H4 x4 R4 e4
                  have pex : P G4.ex := by rw [x4.ex, x3.ex]; exact he2.p
                  refine ⟨G4, μ4, ρ4, ⟨pex, R4, e4⟩, Post1.turn (Post1.shift h2' (x3.trans x4)) fun ρ5 μ5 σ5 G5 H5 x5 R5 e5 h5 => ?_⟩
                  exact ⟨G5, μ5, ρ5, x2.trans (x3.trans (x4.trans x5)), ⟨by rw [x5.ex]; exact pex, R5, e5⟩, h5⟩
        | _ => simp only [e0] at h1'; exact h1'.elim

/-! ### while -/
def sWhN (c : FT) (body : FS) : Nat → FS
  | 0, _, _ => .stuck
  | n + 1, ρ, μ => (c ρ μ).st ρ fun b μ1 => if b = true then (body ρ μ1).turn (sWhN c body n) else .go .nx ρ μ1
/-- n: turns enough -/
theorem ds_while (n : Nat) (hp : PassesOwn (model X.prog X.w) X.A X.env X.xe) (hc : DT X P W c ft) (hb : DSs X P W body f) : DS X P W (.While c body [] pos) (sWhN ft f n) := (ps_while hp hc hb).to fun D σ H h => by
  obtain ⟨G, μ, ρ, he, h⟩ := h
  refine ⟨fun m σ H => ∃ G μ ρ, Here X.K P G μ ρ σ H ∧ Post1 X.K W G H (sWhN ft f m ρ μ) D, ⟨n, G, μ, ρ, he, h⟩, ?_⟩
  rintro m σ2 H2 ⟨G2, μ2, ρ2, he2, h2⟩
  cases m with
  | zero => exact h2.elim
  | succ m =>
    refine ⟨G2, μ2, ρ2, he2, h2.bind he2 fun b μ3 b' G3 H3 x3 R3 r3 h3 => ?_⟩
    subst r3
    cases b with
    | true =>
      rw [if_pos rfl]
      refine ⟨fun σ' H' => ∃ G μ ρ, Here X.K P G μ ρ σ' H' ∧ Post1 X.K W G H' (sWhN ft f m ρ μ) D, fun σ' H' q => ⟨m, Nat.lt_succ_self _, q⟩, G3, μ3, ρ2, he2.step x3 R3, Post1.turn h3 fun ρ5 μ5 σ5 G5 H5 x5 R5 e5 h5 => ?_⟩
      exact ⟨G5, μ5, ρ5, ⟨by rw [x5.ex, x3.ex]; exact he2.p, R5, e5⟩, h5⟩
    | false =>
      rw [if_neg Bool.false_ne_true]
      exact h3.nx R3 (he2.rel.env x3 he2.env)
end

theorem set_same {α : Type} : ∀ {l : List α} {i : Nat} {x : α}, l[i]? = some x → l.set i x = l
  | [], _, _, h => by simp at h
  | a :: l, 0, x, h => by simp at h; rw [h]; rfl
  | a :: l, i + 1, x, h => by
    show a :: l.set i x = a :: l
    rw [set_same (by simpa using h)]
/-! ### a cell is laid for good (a ghost step) -/
def tFreeze (i : Nat) (ρ : Env) (μ : Store) : Option (Env × Store) := match ρ[i]? with
  | some (some (.c n)) => match (μ[n]?).join with
    | some d => some (ρ.set i (some (.v d)), μ.set n none)
    | none => none
  | some (some _) => some (ρ, μ)
  | _ => none
theorem ghost_freeze {K : PySem.W.Frag} (i : Nat) : Ghost K (tFreeze i) := by
  intro G μ ρ σ H R env ρ' μ' e
  unfold tFreeze at e
  cases q : ρ[i]? with
  | none => rw [q] at e; cases e
  | some o =>
    cases o with
    | none => rw [q] at e; cases e
    | some s =>
      cases s with
      | v d => rw [q] at e; cases e; exact ⟨G, .refl, R, env⟩
      | x d => rw [q] at e; cases e; exact ⟨G, .refl, R, env⟩
      | c n =>
        simp only [q] at e
        cases e1 : (μ[n]?).join with
        | none => rw [e1] at e; cases e
        | some d =>
          rw [e1] at e
          cases e
          obtain ⟨v, hv, rs⟩ := env.has i _ q
          obtain ⟨a, rfl, ea, ra⟩ := R.cellOf rs e1
          have nF := (R.at_am (List.mem_of_getElem? ea)).1
          have x : Ext G H { G with F := fun b => G.F b ∨ b = a, am := G.am.set n none } H := by
            refine ⟨fun _ _ h _ => h, fun _ h => .inl h, fun b h => ?_, fun b h => ?_, fun c b hc h => ?_, by show _ ≤ (G.am.set n none).length; rw [List.length_set]; exact Nat.le_refl _, rfl, fun _ o h => ⟨o, h⟩⟩
            · rcases h with h | rfl
              · exact .inl h
              · exact .inr (.inr (List.mem_of_getElem? ea))
            · obtain ⟨c, ec⟩ := mem_am (show some b ∈ G.am.set n none from h)
              by_cases hc : n = c
              · subst hc
                rw [List.getElem?_set_self (List.getElem?_eq_some_iff.mp ea).1] at ec; cases ec
              · rw [List.getElem?_set_ne hc] at ec
                exact .inl (List.mem_of_getElem? ec)
            · have h' : (G.am.set n none)[c]? = some (some b) := h
              by_cases hcn : n = c
              · subst hcn
                rw [List.getElem?_set_self (List.getElem?_eq_some_iff.mp ea).1] at h'; cases h'
              · rw [List.getElem?_set_ne hcn] at h'; exact h'
          have R' : Rel K { G with F := fun b => G.F b ∨ b = a, am := G.am.set n none } (μ.set n none) H := by
            refine ⟨fun b f => ?_, by show (G.am.set n none).length = _; rw [List.length_set, List.length_set]; exact R.len, fun c d' ec => ?_, fun c b ec => ?_, fun c c' b ec ec' => ?_⟩
            · rcases f with f | rfl
              · exact R.dom b f
              · exact ra.mut
            · by_cases hc : n = c
              · subst hc
                have hl : n < μ.length := by rw [← R.len]; exact (List.getElem?_eq_some_iff.mp ea).1
                rw [List.getElem?_set_self hl] at ec; cases ec
              · rw [List.getElem?_set_ne hc] at ec
                obtain ⟨b, eb, nf, rb⟩ := R.cell c d' ec
                refine ⟨b, by show (G.am.set n none)[c]? = _; rw [List.getElem?_set_ne hc]; exact eb, ?_, rb.mono (R.hk x) x.F fun _ h => h⟩
                rintro (f | rfl)
                · exact nf f
                · exact hc (R.inj n c b ea eb)
            · have ec' : (G.am.set n none)[c]? = some (some b) := ec
              by_cases hc : n = c
              · subst hc
                rw [List.getElem?_set_self (List.getElem?_eq_some_iff.mp ea).1] at ec'; cases ec'
              · rw [List.getElem?_set_ne hc] at ec'
                obtain ⟨d', ed⟩ := R.live c b ec'
                exact ⟨d', by rw [List.getElem?_set_ne hc]; exact ed⟩
            · have b1 : G.am[c]? = some (some b) := x.back c b (by have := (List.getElem?_eq_some_iff.mp (show (G.am.set n none)[c]? = _ from ec)).1; rw [List.length_set] at this; exact this) ec
              have b2 : G.am[c']? = some (some b) := x.back c' b (by have := (List.getElem?_eq_some_iff.mp (show (G.am.set n none)[c']? = _ from ec')).1; rw [List.length_set] at this; exact this) ec'
              exact R.inj c c' b b1 b2
          refine ⟨_, x, R', ?_⟩
          have e2 := (R.env x env).set (s := .v d) (v := .ref a) ((ra.mono (R.hk x) x.F fun _ h => h).rep (.inr rfl)) i
          rw [set_same hv] at e2
          exact e2
end DL

namespace DL
open PySem PySem.Spec PyProof.Rows L2

/-! ### comprehensions -/
/-- the target of a comprehension: a name; names that take a tuple, a list apart -/
inductive CT where
  | nm (i : Nat) | tp (is : List Nat)
def setAll : Env → List Nat → List D → Option Env
  | ρ, [], [] => some ρ
  | ρ, i :: is, d :: ds => setAll (ρ.set i (some (.v d))) is ds
  | _, _, _ => none
def CT.put (t : CT) (d : D) (ρ : Env) : Option Env := match t with
  | .nm i => some (ρ.set i (some (.v d)))
  | .tp is => match d with
    | .tup ds => setAll ρ is ds
    | _ => none
def CT.slots : CT → List Nat
  | .nm i => [i]
  | .tp is => is
def wipeE (ρ : Env) : List Nat → Env
  | [] => ρ
  | v :: vs => (wipeE ρ vs).set v none
def cLoop (t : CT) (ft : FT) (fe : FE) (ρ : Env) : List D → Store → List D → Out (List D)
  | [], μ, acc => .ok acc μ
  | d :: ds, μ, acc => match t.put d ρ with
    | none => .stuck
    | some ρ1 => match ft ρ1 μ with
      | .ok true μ1 => match fe ρ1 μ1 with
        | .ok (.v y) μ2 => if acc.length < lim then cLoop t ft fe ρ ds μ2 (acc ++ [y]) else .stuck
        | _ => .stuck
      | .ok false μ1 => cLoop t ft fe ρ ds μ1 acc
      | _ => .stuck
def fComp (nb : Bool) (own : List Nat) (fi : FI) (t : CT) (ft : FT) (fe : FE) : FE := fun ρ μ => (fi ρ μ).bind fun it μ1 => match it with
  | .vals ds => (cLoop t ft fe (wipeE ρ own) ds μ1 []).bind fun acc μ2 => mk nb (.lst acc) μ2
  | _ => .stuck
def fYes : FT := fun _ μ => .ok true μ
/-- the readings of such targets -/
def gNms : List Nat → TGs
  | [] => gNil
  | i :: is => gCons (gName i) (gNms is)
def CT.rd (K : PySem.W.Frag) : CT → TG
  | .nm i => gName i
  | .tp is => gTup K is.length (gNms is)
structure PCT (X : Cx) (tg : Expr) (t : CT) : Prop where
  pg : PG X tg (t.rd X.K)
section
variable {σ : L2.St}
theorem wipe_set : ∀ {vs : List Nat} {σ : L2.St} {i : Nat} {x : Option V}, i ∈ vs → wipe (σ.set i x) vs = wipe σ vs
  | v :: vs, σ, i, x, h => by
    show (wipe (σ.set i x) vs).set v none = (wipe σ vs).set v none
    by_cases hv : i ∈ vs
    · rw [wipe_set hv]
    · have e : i = v := by
        rcases List.mem_cons.mp h with e | e
        · exact e
        · exact absurd e hv
      subst e
      have key : ∀ (vs : List Nat) (σ : L2.St), i ∉ vs → wipe (σ.set i x) vs = (wipe σ vs).set i x := by
        intro vs
        induction vs with
        | nil => intro σ _; rfl
        | cons w vs ih =>
          intro σ hn
          show (wipe (σ.set i x) vs).set w none = ((wipe σ vs).set w none).set i x
          rw [ih σ fun z => hn (List.mem_cons_of_mem _ z), List.set_comm _ _ (fun e => hn (by rw [e]; exact List.mem_cons_self))]
      rw [key vs σ hv, List.set_set]
theorem wipe_wipe (σ : L2.St) : ∀ vs : List Nat, ∀ ws : List Nat, (∀ v ∈ ws, v ∈ vs) → wipe (wipe σ ws) vs = wipe σ vs
  | vs, [], _ => rfl
  | vs, w :: ws, h => by
    show wipe ((wipe σ ws).set w none) vs = _
    rw [wipe_set (h w List.mem_cons_self), wipe_wipe σ vs ws fun v hv => h v (List.mem_cons_of_mem _ hv)]
theorem wipeE_rep {K : PySem.W.Frag} {G : Gh} {H : Hp} {ρ : Env} {σ : L2.St} (h : EnvOk K G H ρ σ) : ∀ vs : List Nat, EnvOk K G H (wipeE ρ vs) (wipe σ vs)
  | [] => h
  | v :: vs => (wipeE_rep h vs).unset v
theorem gNms_to {K : PySem.W.Frag} {G : Gh} {H : Hp} {Q : L2.St → Hp → Prop} : ∀ (is : List Nat) (ds : List D) (xs : List V) (ρ ρ' : Env) (σ : L2.St), RepL K G.F H ds xs → EnvOk K G H ρ σ → setAll ρ is ds = some ρ' →
    (∀ σ', EnvOk K G H ρ' σ' → (∀ vs : List Nat, (∀ i ∈ is, i ∈ vs) → wipe σ' vs = wipe σ vs) → Q σ' H) → gNms is xs σ H Q
  | [], [], [], ρ, ρ', σ, .nil, env, e, q => by cases e; exact ⟨rfl, q σ env fun _ _ => rfl⟩
  | i :: is, d :: ds, x :: xs, ρ, ρ', σ, .cons r rr, env, e, q =>
    ⟨x, xs, rfl, gNms_to is ds xs (ρ.set i (some (.v d))) ρ' (σ.set i (some x)) rr (env.set (s := .v d) r i) e fun σ' env' hw => q σ' env' fun vs hv => by
      rw [hw vs fun j hj => hv j (List.mem_cons_of_mem _ hj), wipe_set (hv i List.mem_cons_self)]⟩
  | [], _ :: _, _, _, _, _, _, _, e, _ => by cases e
  | _ :: _, [], _, _, _, _, _, _, e, _ => by cases e
theorem CT.put_to {K : PySem.W.Frag} {G : Gh} {H : Hp} {μ : Store} {Q : L2.St → Hp → Prop} (R : Rel K G μ H) (t : CT) {d : D} {x : V} {ρ ρ' : Env} {σ : L2.St} (r : Rep K G.F H d x) (env : EnvOk K G H ρ σ) (e : t.put d ρ = some ρ')
    (q : ∀ σ', EnvOk K G H ρ' σ' → (∀ vs : List Nat, (∀ i ∈ t.slots, i ∈ vs) → wipe σ' vs = wipe σ vs) → Q σ' H) : t.rd K x σ H Q := by
  cases t with
  | nm i =>
    cases e
    exact q _ (env.set (s := .v d) r i) fun vs hv => wipe_set (hv i (List.mem_singleton.mpr rfl))
  | tp is =>
    cases r with
    | @tup ds a xs h1 r1 =>
      have e' : setAll ρ is ds = some ρ' := e
      have hl : ∀ (is : List Nat) (ds : List D) (ρ ρ' : Env), setAll ρ is ds = some ρ' → ds.length = is.length := by
        intro is
        induction is with
        | nil => intro ds ρ ρ' e; cases ds with
          | nil => rfl
          | cons _ _ => cases e
        | cons i is ih => intro ds ρ ρ' e; cases ds with
          | nil => cases e
          | cons d ds => rw [List.length_cons, List.length_cons, ih ds _ _ e]
      exact ⟨a, xs, rfl, h1.sq, by rw [← r1.length]; exact hl _ _ _ _ e', gNms_to is ds xs ρ ρ' σ r1 env e' q⟩
    | _ => cases e
end
section
variable {K : PySem.W.Frag} {G : Gh} {H : Hp} {μ : Store}
/-- an object beside ours is written -/
theorem Rel.side (R : Rel K G μ H) {p : Addr} {o o' : HO} (h : H p = some o) (m : Mut (some o)) (nF : ¬ G.F p) (nA : some p ∉ G.am) : Rel K G μ (upd H p o') where
  dom := fun a f => by
    obtain ⟨u, e, mu⟩ := R.dom a f
    have ne : a ≠ p := fun z => nF (z ▸ f)
    exact ⟨u, by rw [upd_ne ne]; exact e, mu⟩
  len := R.len
  cell := fun c d e => by
    obtain ⟨a, ea, nf, ra⟩ := R.cell c d e
    have ne : a ≠ p := fun z => nA (z ▸ List.mem_of_getElem? ea)
    refine ⟨a, ea, nf, ra.mono (fun b u hb q => ?_) (fun _ f => f) fun u hu => by rw [upd_ne ne]; exact hu⟩
    rw [upd_ne]
    · exact hb
    · rintro rfl
      rcases q with q | q
      · exact nF q
      · rw [h] at hb; cases hb; exact q m
  live := R.live
  inj := R.inj
theorem Rep.side {F : Addr → Prop} {p : Addr} {o o' : HO} (h : H p = some o) (m : Mut (some o)) (nF : ¬ F p) : ∀ b u, H b = some u → (F b ∨ ¬ Mut (some u)) → upd H p o' b = some u := fun b u hb q => by
  rw [upd_ne]
  · exact hb
  · rintro rfl
    rcases q with q | q
    · exact nF q
    · rw [h] at hb; cases hb; exact q m
end
abbrev W0 : WX := fun _ _ _ _ => False
section
variable {K : PySem.W.Frag} {P : PX} {W : WX} {fi : FI} {ft : FT} {fe : FE} {t : CT} {own : List Nat} {nb : Bool}
theorem TD.lc (hs : ∀ i ∈ t.slots, i ∈ own) : ∀ σ H Q, TD K P W (fComp nb own fi t ft fe) σ H Q → tLc (TDI K P W fi) (t.rd K) (TDT K P W0 ft) (TD K P W0 fe) own σ H Q := by
  rintro σ H Q ⟨G, μ, ρ, he, h⟩
  refine ⟨G, μ, ρ, he, Post.bind h fun it μ1 J G1 H1 x1 R1 ok h1 => ?_⟩
  cases it with
  | cell n => exact h1.elim
  | vals ds =>
    intro p hp
    have he1 := he.step x1 R1
    have h1' : Post (SlRep K) K W σ G1 H1 ((cLoop t ft fe (wipeE ρ own) ds μ1 []).bind fun acc μ2 => mk nb (.lst acc) μ2) Q := h1
    refine ⟨fun i m H => ∃ G μ acc xs, m = ds.length - i ∧ i ≤ ds.length ∧ Ext G1 H1 G H ∧ Rel K G μ H ∧ ¬ G.F p ∧ some p ∉ G.am ∧ H p = some (.lst xs) ∧ RepL K G.F H acc xs ∧ Post (SlRep K) K W σ G1 H1 ((cLoop t ft fe (wipeE ρ own) (ds.drop i) μ acc).bind fun acc μ2 => mk nb (.lst acc) μ2) Q,
      ⟨ds.length, G1, μ1, [], [], by simp, Nat.zero_le _, Ext.new hp, R1.new hp, ?_, ?_, upd_same, .nil, by simpa using h1'⟩, ?_⟩
    · intro f
      obtain ⟨o, e, _⟩ := R1.dom p f
      rw [hp] at e; cases e
    · intro f
      obtain ⟨_, o, e, _⟩ := R1.at_am f
      rw [hp] at e; cases e
    · rintro i m H2 ⟨G2, μ2, acc, xs, rfl, hi2, x2, R2, nF, nA, hD, ra, h2⟩
      have st : match some ds[i]? with
        | none => True
        | some none => J.stop i H2
        | some (some d) => J.go i H2 ∧ ∀ x H'', J.yld i H2 x H'' → ∃ G'', Ext G2 H2 G'' H'' ∧ Rel K G'' μ2 H'' ∧ Rep K G''.F H'' d x := ok G2 μ2 H2 i x2 R2
      by_cases hlt : i < ds.length
      · rw [List.getElem?_eq_getElem hlt] at st
        obtain ⟨go, yl⟩ := st
        rw [List.drop_eq_getElem_cons hlt] at h2
        refine .inr ⟨go, fun H' => ∃ G μ acc xs, Ext G1 H1 G H' ∧ Rel K G μ H' ∧ ¬ G.F p ∧ some p ∉ G.am ∧ H' p = some (.lst xs) ∧ RepL K G.F H' acc xs ∧ Post (SlRep K) K W σ G1 H1 ((cLoop t ft fe (wipeE ρ own) (ds.drop (i + 1)) μ acc).bind fun acc μ2 => mk nb (.lst acc) μ2) Q,
          fun H' ⟨G, μ, acc, xs, q⟩ => ⟨ds.length - (i + 1), by omega, G, μ, acc, xs, rfl, hlt, q⟩, fun x H3 y => ?_⟩
        obtain ⟨G3, x3, R3, r3⟩ := yl x H3 y
        have h2' : Post (SlRep K) K W σ G1 H1 (Out.bind (match t.put ds[i] (wipeE ρ own) with
          | none => .stuck
          | some ρ1 => match ft ρ1 μ2 with
            | .ok true μ1 => match fe ρ1 μ1 with
              | .ok (.v y) μ2 => if acc.length < lim then cLoop t ft fe (wipeE ρ own) (ds.drop (i + 1)) μ2 (acc ++ [y]) else .stuck
              | _ => .stuck
            | .ok false μ1 => cLoop t ft fe (wipeE ρ own) (ds.drop (i + 1)) μ1 acc
            | _ => .stuck) fun acc μ2 => mk nb (.lst acc) μ2) Q := h2
        cases e : t.put ds[i] (wipeE ρ own) with
        | none => rw [e] at h2'; exact h2'.elim
        | some ρ1 =>
          simp only [e] at h2'
          -- what is carried along
          have env1 : EnvOk K G3 H3 (wipeE ρ own) (wipe σ own) := wipeE_rep (R2.env x3 (R1.env x2 he1.env)) own
          have carry : ∀ {G4 : Gh} {H4 : Hp} {μ4 : Store}, Ext G2 H2 G4 H4 → Rel K G4 μ4 H4 → ¬ G4.F p ∧ some p ∉ G4.am ∧ H4 p = some (.lst xs) ∧ RepL K G4.F H4 acc xs := fun {G4 H4 μ4} x4 R4 => by
            refine ⟨fun f => ?_, fun f => ?_, x4.keep p _ hD nA, R2.repL x4 ra⟩
            · rcases x4.newF p f with z | z | z
              · exact nF z
              · rw [hD] at z; cases z
              · exact nA z
            · rcases x4.newA p f with z | z
              · exact nA z
              · rw [hD] at z; cases z
          refine t.put_to R3 r3 env1 e fun σ2 env2 hw => ⟨?_, ?_⟩
          · rw [hw own hs]
            exact wipe_wipe σ own own fun _ h => h
          · refine ⟨G3, μ2, ρ1, ⟨by rw [x3.ex, x2.ex]; exact he1.p, R3, env2⟩, ?_⟩
            cases e1 : ft ρ1 μ2 with
            | stuck => rw [e1] at h2'; exact h2'.elim
            | exc _ _ => rw [e1] at h2'; exact h2'.elim
            | ok b μ3 =>
              intro b' G4 H4 x4 R4 rb
              subst rb
              cases b with
              | false =>
                rw [if_neg Bool.false_ne_true]
                rw [e1] at h2'
                obtain ⟨c1, c2, c3, c4⟩ := carry (x3.trans x4) R4
                exact ⟨G4, μ3, acc, xs, x2.trans (x3.trans x4), R4, c1, c2, c3, c4, h2'⟩
              | true =>
                rw [if_pos rfl]
                simp only [e1] at h2'
                refine ⟨G4, μ3, ρ1, ⟨by rw [x4.ex, x3.ex, x2.ex]; exact he1.p, R4, R3.env x4 env2⟩, ?_⟩
                cases e2 : fe ρ1 μ3 with
                | stuck => rw [e2] at h2'; exact h2'.elim
                | exc _ _ => rw [e2] at h2'; exact h2'.elim
                | ok s μ4 =>
                  rw [e2] at h2'
                  intro y G5 H5 x5 R5 ry
                  match s, ry, h2' with
                  | .v dy, ry, h2' =>
                    by_cases hl : acc.length < lim
                    · simp only [if_pos hl] at h2'
                      obtain ⟨c1, c2, c3, c4⟩ := carry (x3.trans (x4.trans x5)) R5
                      have ne : ∀ {a : Addr} {u : HO}, H1 a = some u → a ≠ p := fun {a u} q z => by rw [z, hp] at q; cases q
                      have x6 := x2.trans (x3.trans (x4.trans x5))
                      refine ⟨xs, c3, by rw [← c4.length, sizeLine_lim]; exact hl, G5, μ4, acc ++ [dy], xs ++ [y], ⟨fun a u q m => by rw [upd_ne (ne q)]; exact x6.keep a u q m, x6.F, x6.newF, x6.newA, x6.back, x6.le, x6.ex, fun a u q => by rw [upd_ne (ne q)]; exact x6.kept a u q⟩,
                        R5.side c3 trivial c1 c2, c1, c2, upd_same, ?_, h2'⟩
                      exact (c4.append (.cons ry .nil)).mono (Rep.side c3 trivial c1) fun _ f => f
                    · simp only [if_neg hl] at h2'; exact h2'.elim
                  | .c _, _, h2' => exact h2'.elim
                  | .x _, _, h2' => exact h2'.elim
      · have e : i = ds.length := by omega
        subst e
        rw [List.getElem?_eq_none (Nat.le_refl _)] at st
        rw [List.drop_length] at h2
        refine .inl ⟨st, ?_⟩
        have h2' : Post (SlRep K) K W σ G1 H1 (mk nb (.lst acc) μ2) Q := h2
        have np : H1 p = none := hp
        cases nb with
        | true =>
          refine h2' (.ref p) (G2.push p) H2 ⟨x2.keep, x2.F, x2.newF, fun a m => ?_, fun c a hc q => ?_, ?_, x2.ex, x2.kept⟩ ?_ ⟨?_, fun a q => ?_⟩
          · rcases List.mem_append.mp (show some a ∈ G2.am ++ [some p] from m) with m | m
            · exact x2.newA a m
            · have e : a = p := by simpa using m
              rw [e]; exact .inr np
          · have q' : (G2.am ++ [some p])[c]? = some (some a) := q
            rw [List.getElem?_append_left (Nat.lt_of_lt_of_le hc x2.le)] at q'
            exact x2.back c a hc q'
          · show G1.am.length ≤ (G2.am ++ [some p]).length
            rw [List.length_append]
            exact Nat.le_trans x2.le (Nat.le_add_right _ _)
          · refine ⟨R2.dom, by show (G2.am ++ [some p]).length = _; simp [R2.len], fun c d' ec => ?_, fun c a ec => ?_, fun c c' a ec ec' => ?_⟩
            · by_cases hc : c < μ2.length
              · rw [List.getElem?_append_left hc] at ec
                obtain ⟨a, ea, nf, rr⟩ := R2.cell c d' ec
                refine ⟨a, ?_, nf, rr⟩
                show (G2.am ++ [some p])[c]? = _
                rw [List.getElem?_append_left (by rw [R2.len]; exact hc)]
                exact ea
              · have hc' : c = μ2.length := by
                  have := (List.getElem?_eq_some_iff.mp ec).1
                  simp at this
                  omega
                subst hc'
                rw [List.getElem?_append_right (Nat.le_refl _), Nat.sub_self] at ec
                have e' : D.lst acc = d' := by simpa using ec
                subst e'
                refine ⟨p, ?_, nF, .lst hD ra⟩
                show (G2.am ++ [some p])[μ2.length]? = _
                rw [List.getElem?_append_right (by rw [R2.len]; exact Nat.le_refl _), R2.len, Nat.sub_self]
                rfl
            · have e' : (G2.am ++ [some p])[c]? = some (some a) := ec
              by_cases hc : c < G2.am.length
              · rw [List.getElem?_append_left hc] at e'
                obtain ⟨d', ed⟩ := R2.live c a e'
                exact ⟨d', by rw [List.getElem?_append_left (by rw [← R2.len]; exact hc)]; exact ed⟩
              · have hc' : c = μ2.length := by
                  have h1 := (List.getElem?_eq_some_iff.mp e').1
                  have h2 := R2.len
                  rw [List.length_append, List.length_singleton] at h1
                  omega
                subst hc'
                exact ⟨.lst acc, by simp⟩
            · have h1 : (G2.am ++ [some p])[c]? = some (some a) := ec
              have h2 : (G2.am ++ [some p])[c']? = some (some a) := ec'
              by_cases hc : c < G2.am.length <;> by_cases hc' : c' < G2.am.length
              · rw [List.getElem?_append_left hc] at h1
                rw [List.getElem?_append_left hc'] at h2
                exact R2.inj c c' a h1 h2
              · rw [List.getElem?_append_left hc] at h1
                rw [List.getElem?_append_right (by omega)] at h2
                have h3 := List.mem_of_getElem? h2
                have ep : a = p := by simpa using h3
                exact absurd (ep ▸ List.mem_of_getElem? h1) nA
              · rw [List.getElem?_append_left hc'] at h2
                rw [List.getElem?_append_right (by omega)] at h1
                have h3 := List.mem_of_getElem? h1
                have ep : a = p := by simpa using h3
                exact absurd (ep ▸ List.mem_of_getElem? h2) nA
              · have l1 := (List.getElem?_eq_some_iff.mp h1).1
                have l2 := (List.getElem?_eq_some_iff.mp h2).1
                simp at l1 l2
                omega
          · show μ2.length < (G2.am ++ [some p]).length
            simp [R2.len]
          · have e' : (G2.am ++ [some p])[μ2.length]? = some (some a) := q
            rw [← R2.len] at e'
            have e2 : p = a := by simpa using e'
            rw [e2]
        | false =>
          have xx : Ext G1 H1 (G2.add p) H2 := ⟨x2.keep, fun a f => .inl (x2.F a f), fun a f => by
            rcases f with f | rfl
            · exact x2.newF a f
            · exact .inr (.inl np), x2.newA, x2.back, x2.le, x2.ex, x2.kept⟩
          have sub : ∀ a, G2.F a → (G2.add p).F a := fun a f => .inl f
          refine h2' (.ref p) (G2.add p) H2 xx ⟨fun a f => ?_, R2.len, fun c d' ec => ?_, R2.live, R2.inj⟩ (Rep.lst (.inr rfl) hD (ra.mono (fun _ _ h _ => h) sub))
          · rcases f with f | rfl
            · exact R2.dom a f
            · exact ⟨_, hD, trivial⟩
          · obtain ⟨a, ea, nf, rr⟩ := R2.cell c d' ec
            refine ⟨a, ea, ?_, rr.mono (fun _ _ h _ => h) sub fun _ h => h⟩
            rintro (f | rfl)
            · exact nf f
            · exact nA (List.mem_of_getElem? ea)
end
section
variable {X : Cx} {P : PX} {W : WX} {elt tg iter : Expr} {ifs : List Expr} {scope : Scope} {own : List (Str × Nat)} {pos spos py : Pos} {fi : FI} {ft : FT} {fe : FE} {t : CT}
abbrev DTs (X : Cx) (P : PX) (W : WX) (ifs : List Expr) (f : FT) : Prop := PTs X ifs (TDT X.K P W f)
theorem dts_nil : DTs X P W [] fYes := ⟨fun pins s σ H Q I h => pts_nil.run pins s σ H Q I (by
  obtain ⟨G, μ, ρ, he, h⟩ := h
  exact h true G H .refl he.rel rfl)⟩
theorem dts_one {c : Expr} (h : DT X P W c ft) : DTs X P W [c] ft := pts_one h
theorem de_lc (nb : Bool) (hc : X.calm = true) (hN : X.N.Nodup) (hi : DI X P W tg iter fi) (ok : BlkOk X.N X.env.scope scope own)
    (hg : ∀ (s : Shared) (H : Hp) (C : Addr) (cl : List (Str × Addr)) (fp : List Addr), PCT (X.blk s H scope (compEnvC scope cl C X.env) fp) tg t)
    (ht : ∀ (s : Shared) (H : Hp) (C : Addr) (cl : List (Str × Addr)) (fp : List Addr), DTs (X.blk s H scope (compEnvC scope cl C X.env) fp) P W0 ifs ft)
    (he : ∀ (s : Shared) (H : Hp) (C : Addr) (cl : List (Str × Addr)) (fp : List Addr), DE (X.blk s H scope (compEnvC scope cl C X.env) fp) P W0 elt fe)
    (hsl : ∀ i ∈ t.slots, i ∈ own.map (·.2) := by decide)
    (hs : ∀ x, foldedSetIterable iter X.env x = pure x := by intro _; rfl) : DE X P W (.ListComp elt [{ target := tg, iter := iter, ifs := ifs, is_async := 0 }] scope pos) (fComp nb (own.map (·.2)) fi t ft fe) :=
  (pe_lc hc hN hi ok (fun s H C cl fp => (hg s H C cl fp).pg) ht he hs).to (TD.lc hsl)
theorem ds_setLc (nb : Bool) (i : Nat) {y : Str} (hc : X.calm = true) (hN : X.N.Nodup) (hsw : swapsWith (.ListComp elt [{ target := tg, iter := iter, ifs := ifs, is_async := 0 }] scope pos) (some (.Name y py)) spos.line X.env = pure true) (hi : DI X P W tg iter fi) (ok : BlkOk X.N X.env.scope scope own)
    (hg : ∀ (s : Shared) (H : Hp) (C : Addr) (cl : List (Str × Addr)) (fp : List Addr), PCT (X.blk s H scope (compEnvC scope cl C X.env) fp) tg t)
    (ht : ∀ (s : Shared) (H : Hp) (C : Addr) (cl : List (Str × Addr)) (fp : List Addr), DTs (X.blk s H scope (compEnvC scope cl C X.env) fp) P W0 ifs ft)
    (he : ∀ (s : Shared) (H : Hp) (C : Addr) (cl : List (Str × Addr)) (fp : List Addr), DE (X.blk s H scope (compEnvC scope cl C X.env) fp) P W0 elt fe)
    (hsl : ∀ i ∈ t.slots, i ∈ own.map (·.2) := by decide) (hy : X.N[i]? = some y := by rfl) (hyl : X.env.scope.names.lookup y = some .local := by rfl)
    (hs : ∀ x, foldedSetIterable iter X.env x = pure x := by intro _; rfl) : DS X P W (.Assign [.Name y py] (.ListComp elt [{ target := tg, iter := iter, ifs := ifs, is_async := 0 }] scope pos) spos) (sAsg (fComp nb (own.map (·.2)) fi t ft fe) (gNm i)) :=
  (ps_setLc hc hN hy hyl hsw hi ok (fun s H C cl fp => (hg s H C cl fp).pg) ht he hs).to fun D σ H h => TD.lc hsl σ H _ (by
    obtain ⟨G, μ, ρ, he, h⟩ := h
    exact ⟨G, μ, ρ, he, h.bind he fun s μ1 x G1 H1 x1 R1 r1 h1 => h1.nx R1 ((he.rel.env x1 he.env).set r1 i)⟩)
end
/-- a comprehension's target: one name -/
theorem pct_nm {X : Cx} {x : Str} {pos : Pos} (i : Nat) (hN : X.N.Nodup) (hi : X.N[i]? = some x) (hx : Loc X.env.scope x) (hf : X.fn x = true ∨ X.env.scope.names.lookup x = some .local) : PCT X (.Name x pos) (.nm i) := ⟨pg_name hN hi hx hf⟩
theorem pct_tp {X : Cx} {es : List Expr} {k : Nat} {pos : Pos} (is : List Nat) (hc : X.calm = true) (h : PGs X es (gNms is)) (hn : (assignEach es X.env).length = is.length) (hst : (assignEach es X.env).findIdx? (·.1) = none) : PCT X (.Tuple es k pos) (.tp is) := ⟨pg_tup hc h hn hst⟩
end DL

namespace DL
open PySem PySem.Spec PyProof.Rows L2

/-! ### a def by its body -/
inductive PO where
  | stuck | ok (d : D) | exc (e : Exc)
def runS : SOut → Out Sl
  | .go (.rt s) _ μ => .ok s μ
  | .go .nx _ μ => .ok (.v .non) μ
  | .exc e _ μ => .exc e μ
  | _ => .stuck
def startE (n : Nat) (ss : List Sl) : Env := ss.map some ++ List.replicate (n - ss.length) none
def pureOf (n : Nat) (b : FS) (ds : List D) : PO := match runS (b (startE n (ds.map .v)) []) with
  | .ok (.v d) _ => .ok d
  | .exc e _ => .exc e
  | _ => .stuck
def getAll (μ : Store) : List Sl → Option (List D)
  | [] => some []
  | s :: ss => match s.get μ with
    | some d => (getAll μ ss).map (d :: ·)
    | none => none
mutual
/-- nothing that could change hangs on it -/
def D.nol : D → Bool
  | .non => true
  | .bl _ => true
  | .int _ => true
  | .str _ => true
  | .ty _ => true
  | .glo _ => true
  | .tup ds => D.nolL ds
  | _ => false
def D.nolL : List D → Bool
  | [] => true
  | d :: ds => D.nol d && D.nolL ds
end
def lift (ψ : List D → PO) : List Sl → Store → Out Sl := fun ss μ => match getAll μ ss with
  | none => .stuck
  | some ds => match ψ ds with
    | .stuck => .stuck
    | .ok r => if (allVB ss || r.nol) = true then .ok (.v r) μ else .stuck
    | .exc e => if (allVB ss || D.nolL e.vs) = true then .exc e μ else .stuck
section
variable {K : PySem.W.Frag} {F F' : Addr → Prop} {H : Hp}
mutual
theorem Rep.nol : ∀ {d : D} {v : V}, Rep K F H d v → d.nol = true → Rep K F' H d v
  | _, _, .non, _ => .non
  | _, _, .bl b, _ => .bl b
  | _, _, .int i, _ => .int i
  | _, _, .str x, _ => .str x
  | _, _, .ty n, _ => .ty n
  | _, _, .glo x, _ => .glo x
  | _, _, .lst f h r, e => by simp [D.nol] at e
  | _, _, .fz h r, e => by simp [D.nol] at e
  | _, _, .tup h r, e => .tup h (RepL.nol r (by simpa only [D.nol] using e))
  | _, _, .dK f h r, e => by simp [D.nol] at e
  | _, _, .dT f h r, e => by simp [D.nol] at e
  | _, _, .ins f h r, e => by simp [D.nol] at e
theorem RepL.nol : ∀ {ds : List D} {vs : List V}, RepL K F H ds vs → D.nolL ds = true → RepL K F' H ds vs
  | _, _, .nil, _ => .nil
  | _, _, .cons h t, e => by
    simp only [D.nolL, Bool.and_eq_true] at e
    exact .cons (Rep.nol h e.1) (RepL.nol t e.2)
end
end
theorem start_env {K : PySem.W.Frag} {G : Gh} {H : Hp} : ∀ (n : Nat) {ss : List Sl} {vs : List V}, SlReps K G H ss vs → EnvOk K G H (startE n ss) (vs.map some ++ List.replicate (n - vs.length) none) := by
  intro n ss vs r
  refine ⟨by unfold startE; simp [r.length], fun i s e => ?_⟩
  unfold startE at e
  by_cases hi : i < ss.length
  · rw [List.getElem?_append_left (by simpa using hi), List.getElem?_map] at e
    cases q : ss[i]? with
    | none => rw [q] at e; cases e
    | some s' =>
      rw [q] at e
      cases e
      have key : ∀ {ss : List Sl} {vs : List V} {i : Nat}, SlReps K G H ss vs → ss[i]? = some s → ∃ v, vs[i]? = some v ∧ SlRep K G H s v := by
        intro ss vs i r
        induction r generalizing i with
        | nil => intro e; simp at e
        | cons h t ih =>
          intro e
          cases i with
          | zero => simp at e; subst e; exact ⟨_, rfl, h⟩
          | succ i =>
            obtain ⟨v, e1, r1⟩ := ih (by simpa using e)
            exact ⟨v, by simpa using e1, r1⟩
      obtain ⟨v, e1, r1⟩ := key r q
      refine ⟨v, ?_, r1⟩
      rw [List.getElem?_append_left (by simpa using (List.getElem?_eq_some_iff.mp e1).1), List.getElem?_map, e1]
      rfl
  · rw [List.getElem?_append_right (by simpa using hi), List.getElem?_replicate] at e
    split at e <;> cases e
theorem vReps {K : PySem.W.Frag} {G : Gh} {H : Hp} : ∀ {ds : List D} {vs : List V}, RepL K G.F H ds vs → SlReps K G H (ds.map .v) vs
  | _, _, .nil => .nil
  | _, _, .cons h t => .cons h (vReps t)
theorem getAll_rep {K : PySem.W.Frag} {G : Gh} {H : Hp} {μ : Store} (R : Rel K G μ H) {F0 : Addr → Prop} (h1 : ∀ a, G.F a → F0 a) : ∀ {ss : List Sl} {vs : List V} {ds : List D}, (∀ (n : Nat) a, Sl.c n ∈ ss → G.am[n]? = some (some a) → F0 a) → SlReps K G H ss vs → getAll μ ss = some ds → RepL K F0 H ds vs
  | [], _, _, _, .nil, e => by cases e; exact .nil
  | s :: ss, _, _, hc, .cons r rr, e => by
    have e' : (match s.get μ with
      | some d => (getAll μ ss).map (d :: ·)
      | none => none) = some _ := e
    cases q : s.get μ with
    | none => rw [q] at e'; cases e'
    | some d =>
      simp only [q] at e'
      cases q2 : getAll μ ss with
      | none => rw [q2] at e'; cases e'
      | some ds =>
        rw [q2] at e'
        cases e'
        refine .cons ?_ (getAll_rep R h1 (fun n a m => hc n a (List.mem_cons_of_mem _ m)) rr q2)
        cases s with
        | v d' => cases q; exact Rep.mono (fun _ _ h _ => h) h1 r
        | x _ => cases q
        | c n =>
          obtain ⟨a, rfl, ea, ra⟩ := R.cellOf r q
          exact (ra.mono (fun _ _ h _ => h) h1 fun _ h => h).rep (hc n a List.mem_cons_self ea)
theorem allVB_no : ∀ {ss : List Sl}, allVB ss = true → ∀ n : Nat, Sl.c n ∉ ss
  | [], _, _, h => by cases h
  | .v _ :: ss, e, n, h => by
    rcases List.mem_cons.mp h with h | h
    · cases h
    · exact allVB_no (ss := ss) e n h
  | .c _ :: _, e, _, _ => by cases e
  | .x _ :: _, e, _, _ => by cases e
abbrev PT1 : PX := fun _ => True
section
variable {P : Program} {w : World} {K : PySem.W.Frag} {mg : Str → Option Value} {base : Heap} {x qual : Str} {params : Arguments} {body : List Stmt} {scope : Scope} {f : Addr} {fd : FuncData} {N ps : List Str} {k : Nat}
/-- what a body's rules are to show -/
abbrev BodyD (P : Program) (w : World) (K : PySem.W.Frag) (mg : Str → Option Value) (base : Heap) (N : List Str) (qual : Str) (scope : Scope) (f : Addr) (body : List Stmt) (k : Nat) (b : FS) : Prop :=
  ∀ (cdv : Value) (A : Around) (outer : List PySem.Env) (s : Shared) (H : Hp) (E : XK), Room k (A.deeper (envOfC qual scope s.heap.objs.size f cdv)) → DSs (cxOf (L2.CX P w) P w K mg base N qual scope f cdv A outer s H E) PT1 (fun c d _ H => E c d H) body b
theorem fn_gen (F : FunD K x qual params body scope [] [] f fd) (S : FnScope N ps scope) {b : FS} (hb : BodyD P w K mg base N qual scope f body k b) :
    FnOk P w K mg base (L2.CX P w) (k + 1) f fd ps (spG K ps.length fun ss μ => runS (b (startE N.length ss) μ)) := by
  refine F.ok S (fun vs H Q E h => h.1) fun cdv A outer s H vs Q E hr h => ⟨_, hb cdv A outer s H E hr, ?_⟩
  obtain ⟨hl, G, μ, ss, R, rs, p⟩ := h
  replace p : Post (SlRep K) K (fun c d _ H => E c d H) [] G H (runS (b (startE N.length ss) μ)) Q := p
  refine ⟨G, μ, startE N.length ss, ⟨trivial, R, start_env _ rs⟩, ?_⟩
  cases q : b (startE N.length ss) μ with
  | stuck => rw [q] at p; exact p
  | exc e ρ μ' => rw [q] at p; exact fun d σ' G' H' x R' _ ex => p d G' H' x R' ex
  | go c ρ μ' =>
    rw [q] at p
    cases c with
    | nx => exact fun σ' G' H' x R' _ => p .non G' H' x R' .non
    | rt s => exact fun σ' G' H' x R' _ v r => p v G' H' x R' r
    | bk => exact p.elim
    | ct => exact p.elim
/-- .. that hands back a plain value: its own cells are forgotten -/
def runC (n : Nat) (o : SOut) : Out Sl := match runS o with
  | .ok (.v d) μ => .ok (.v d) (μ.take n)
  | .exc e μ => .exc e (μ.take n)
  | _ => .stuck
theorem Rel.cut {G G' : Gh} {H H' : Hp} {μ : Store} (x : Ext G H G' H') (R : Rel K G' μ H') : Ext G H { G' with am := G'.am.take G.am.length } H' ∧ Rel K { G' with am := G'.am.take G.am.length } (μ.take G.am.length) H' := by
  have get : ∀ {c : Nat} {a : Addr}, (G'.am.take G.am.length)[c]? = some (some a) → c < G.am.length ∧ G'.am[c]? = some (some a) := fun {c a} e => by
    have hl := (List.getElem?_eq_some_iff.mp e).1
    rw [List.length_take] at hl
    refine ⟨by omega, ?_⟩
    rw [List.getElem?_take_of_lt (by omega)] at e
    exact e
  refine ⟨⟨x.keep, x.F, x.newF, fun a m => ?_, fun c a hc e => x.back c a hc (get e).2, ?_, x.ex, x.kept⟩, R.dom, ?_, fun c d e => ?_, fun c a e => ?_, fun c c' a e e' => R.inj c c' a (get e).2 (get e').2⟩
  · exact x.newA a (List.mem_of_mem_take m)
  · show G.am.length ≤ (G'.am.take G.am.length).length
    have := x.le
    rw [List.length_take]
    omega
  · show (G'.am.take G.am.length).length = _
    rw [List.length_take, List.length_take, R.len]
  · have hl := (List.getElem?_eq_some_iff.mp e).1
    rw [List.length_take] at hl
    rw [List.getElem?_take_of_lt (by omega)] at e
    obtain ⟨a, ea, nf, ra⟩ := R.cell c d e
    refine ⟨a, ?_, nf, ra⟩
    show (G'.am.take G.am.length)[c]? = _
    rw [List.getElem?_take_of_lt (by omega)]
    exact ea
  · obtain ⟨h1, h2⟩ := get e
    obtain ⟨d, ed⟩ := R.live c a h2
    exact ⟨d, by rw [List.getElem?_take_of_lt h1]; exact ed⟩
theorem fn_cut (F : FunD K x qual params body scope [] [] f fd) (S : FnScope N ps scope) {b : FS} (hb : BodyD P w K mg base N qual scope f body k b) :
    FnOk P w K mg base (L2.CX P w) (k + 1) f fd ps (spG K ps.length fun ss μ => runC μ.length (b (startE N.length ss) μ)) := by
  refine F.ok S (fun vs H Q E h => h.1) fun cdv A outer s H vs Q E hr h => ⟨_, hb cdv A outer s H E hr, ?_⟩
  obtain ⟨hl, G, μ, ss, R, rs, p⟩ := h
  replace p : Post (SlRep K) K (fun c d _ H => E c d H) [] G H (runC μ.length (b (startE N.length ss) μ)) Q := p
  refine ⟨G, μ, startE N.length ss, ⟨trivial, R, start_env _ rs⟩, ?_⟩
  cases q : b (startE N.length ss) μ with
  | stuck => rw [q] at p; exact p
  | exc e ρ μ' =>
    rw [q] at p
    intro d σ' G' H' x R' _ ex
    obtain ⟨x2, R2⟩ := Rel.cut x R'
    rw [R.len] at x2 R2
    exact p d _ H' x2 R2 ex
  | go c ρ μ' =>
    rw [q] at p
    cases c with
    | nx =>
      intro σ' G' H' x R' _
      obtain ⟨x2, R2⟩ := Rel.cut x R'
      rw [R.len] at x2 R2
      exact p .non _ H' x2 R2 .non
    | rt s =>
      intro σ' G' H' x R' _ v r
      cases s with
      | v d =>
        obtain ⟨x2, R2⟩ := Rel.cut x R'
        rw [R.len] at x2 R2
        exact p v _ H' x2 R2 r
      | c _ => exact p.elim
      | x _ => exact p.elim
    | bk => exact p.elim
    | ct => exact p.elim
/-- .. that looks at plain values alone -/
theorem fn_pure (F : FunD K x qual params body scope [] [] f fd) (S : FnScope N ps scope) {b : FS} (hb : BodyD P w K mg base N qual scope f body k b) :
    FnOk P w K mg base (L2.CX P w) (k + 1) f fd ps (spG K ps.length (lift (pureOf N.length b))) := by
  refine F.ok S (fun vs H Q E h => h.1) fun cdv A outer s H vs Q E hr h => ⟨_, hb cdv A outer s H E hr, ?_⟩
  obtain ⟨hl, G, μ, ss, R, rs, p⟩ := h
  unfold lift at p
  cases e0 : getAll μ ss with
  | none => rw [e0] at p; exact p.elim
  | some ds =>
    simp only [e0] at p
    have F0 : ∃ F0 : Addr → Prop, F0 = fun a => G.F a ∨ ∃ n : Nat, Sl.c n ∈ ss ∧ G.am[n]? = some (some a) := ⟨_, rfl⟩
    obtain ⟨F0, hF0⟩ := F0
    have rd : RepL K F0 H ds vs := getAll_rep R (fun a f => by rw [hF0]; exact .inl f) (fun n a m e => by rw [hF0]; exact .inr ⟨n, m, e⟩) rs e0
    have R0 : Rel K ⟨F0, [], none⟩ [] H := ⟨fun a f => by
      rw [hF0] at f
      rcases f with f | ⟨n, _, e⟩
      · exact R.dom a f
      · exact (R.at_am (List.mem_of_getElem? e)).2, rfl, fun c d e => by simp at e, fun c a e => by simp at e, fun c c' a e => by simp at e⟩
    have env0 := start_env N.length (vReps (G := ⟨F0, [], none⟩) rd)
    refine ⟨⟨F0, [], none⟩, [], startE N.length (ds.map .v), ⟨trivial, R0, env0⟩, ?_⟩
    -- back to the caller
    have back : ∀ {G' : Gh} {H' : Hp} {μ' : Store}, Ext ⟨F0, [], none⟩ H G' H' → Rel K G' μ' H' → Ext G H ⟨fun a => G'.F a ∧ some a ∉ G.am, G.am, G.ex⟩ H' ∧ Rel K ⟨fun a => G'.F a ∧ some a ∉ G.am, G.am, G.ex⟩ μ H' ∧ (allVB ss = true → ∀ a, G'.F a → some a ∉ G.am) := by
      intro G' H' μ' x R'
      have kp : ∀ a o, H a = some o → H' a = some o := fun a o h => x.keep a o h (by simp)
      have sub : ∀ a, G.F a → G'.F a ∧ some a ∉ G.am := fun a f => ⟨x.F a (by rw [hF0]; exact .inl f), fun m => (R.at_am m).1 f⟩
      refine ⟨⟨fun a o h _ => kp a o h, sub, fun a f => ?_, fun a m => .inl m, fun _ _ _ e => e, Nat.le_refl _, rfl, x.kept⟩, ⟨fun a f => R'.dom a f.1, R.len, fun c d e => ?_, R.live, R.inj⟩, fun av a f m => ?_⟩
      · rcases x.newF a f.1 with z | z | z
        · rw [hF0] at z
          rcases z with z | ⟨n, _, z⟩
          · exact .inl z
          · exact absurd (List.mem_of_getElem? z) f.2
        · exact .inr (.inl z)
        · simp at z
      · obtain ⟨a, ea, nf, ra⟩ := R.cell c d e
        exact ⟨a, ea, fun z => z.2 (List.mem_of_getElem? ea), ra.mono (fun b o h _ => kp b o h) sub fun o h => kp a o h⟩
      · rcases x.newF a f with z | z | z
        · rw [hF0] at z
          rcases z with z | ⟨n, z, _⟩
          · exact (R.at_am m).1 z
          · exact allVB_no av n z
        · obtain ⟨_, o, e, _⟩ := R.at_am m
          rw [z] at e; cases e
        · simp at z
    have val : ∀ {d : D}, pureOf N.length b ds = .ok d → ∀ G' H' (μ' : Store), Ext ⟨F0, [], none⟩ H G' H' → Rel K G' μ' H' → ∀ v, Rep K G'.F H' d v → Q v H' := by
      intro d e G' H' μ' x R' v r
      obtain ⟨x2, R2, av⟩ := back x R'
      simp only [e] at p
      by_cases hc : (allVB ss || d.nol) = true
      · rw [if_pos hc] at p
        refine p v _ H' x2 R2 ?_
        rcases Bool.or_eq_true_iff.mp hc with z | z
        · exact Rep.mono (fun _ _ h _ => h) (fun a f => ⟨f, av z a f⟩) r
        · exact Rep.nol r z
      · rw [if_neg hc] at p; exact p.elim
    cases q : b (startE N.length (ds.map .v)) [] with
    | stuck =>
      have e : pureOf N.length b ds = .stuck := by unfold pureOf; rw [q]; rfl
      rw [e] at p
      exact p.elim
    | exc e ρ μ' =>
      have e1 : pureOf N.length b ds = .exc e := by unfold pureOf; rw [q]; rfl
      intro d σ' G' H' x R' _ ex
      obtain ⟨x2, R2, av⟩ := back x R'
      simp only [e1] at p
      by_cases hc : (allVB ss || D.nolL e.vs) = true
      · rw [if_pos hc] at p
        refine p d _ H' x2 R2 ?_
        rcases ex with ex | ⟨a, fs, h1, h2, h3, h4⟩
        · exact .inl ex
        · refine .inr ⟨a, fs, h1, h2, h3, ?_⟩
          rcases Bool.or_eq_true_iff.mp hc with z | z
          · exact RepL.mono (fun _ _ h _ => h) (fun a f => ⟨f, av z a f⟩) h4
          · exact RepL.nol h4 z
      · rw [if_neg hc] at p; exact p.elim
    | go c ρ μ' =>
      cases c with
      | nx =>
        have e1 : pureOf N.length b ds = .ok .non := by unfold pureOf; rw [q]; rfl
        exact fun σ' G' H' x R' _ => val e1 G' H' μ' x R' .non .non
      | rt s =>
        cases s with
        | v d =>
          have e1 : pureOf N.length b ds = .ok d := by unfold pureOf; rw [q]; rfl
          exact fun σ' G' H' x R' _ v r => val e1 G' H' μ' x R' v r
        | c n =>
          have e1 : pureOf N.length b ds = .stuck := by unfold pureOf; rw [q]; rfl
          rw [e1] at p
          exact p.elim
        | x n =>
          have e1 : pureOf N.length b ds = .stuck := by unfold pureOf; rw [q]; rfl
          rw [e1] at p
          exact p.elim
      | bk =>
        have e1 : pureOf N.length b ds = .stuck := by unfold pureOf; rw [q]; rfl
        rw [e1] at p
        exact p.elim
      | ct =>
        have e1 : pureOf N.length b ds = .stuck := by unfold pureOf; rw [q]; rfl
        rw [e1] at p
        exact p.elim
end
end DL

namespace DL
open PySem PySem.Spec PyProof.Rows L2

/-! ### exception classes of the text: __init__(self, what): BASE.__init__(self, '..' + what); self.what = what -/
structure ExC (K : PySem.W.Frag) (x : Str) : Prop where
  ox : OexC K (He.ga K x)
  xf : XfC K (He.ga K x)
  noW : PySem.W.findIn K (.ref (He.ga K x)) "what" = some none
  iC : PySem.W.findIn K (.ref (He.ga K x)) "__init__" = some (some (.ref (He.ma K (He.ga K x) "__init__")))
  tI : PySem.W.typeIn K (.ref (He.ma K (He.ga K x) "__init__")) = some (.type "function")
structure ExB (K : PySem.W.Frag) (b : Str) : Prop where
  sp : PySem.W.specialIn K (.ref (He.ga K b)) "__getattribute__" = some (some (.builtin "type.__getattribute__"))
  ty : PySem.W.typeIn K (.ref (He.ga K b)) = some (.type "type")
  rd : PySem.W.readsIn K (He.ga K b) (.type "type") = true
  fc : PySem.W.findCls K (.ref (He.ga K b)) (.type "type") "__init__" = some (.val (.builtin "ValueError.__init__"))
/-- the class object, read off the written part -/
def exObjB (K : PySem.W.Frag) (C : Addr) : Bool := match K.lookup C with
  | some ⟨.type "type", _, .cls cd, sl⟩ => (match cd.mro, sl.toList with
    | .ref C' :: bm, [_, _, _, _, some (.builtin n), _] => C' == C && n == "ValueError.__new__" && !cd.hasDel && cd.hasDict && PySem.HandSPX.refsVE bm
    | _, _ => false)
  | _ => false
theorem exObj_ok {K : PySem.W.Frag} {C : Addr} (q : exObjB K C = true) : ∃ nm q N bs bm sn sub ab col dd k0 k1 k2 k3 k5, K.lookup C = some (excClassObj nm q C N bs bm true sn sub ab col dd k0 k1 k2 k3 k5 "ValueError.__new__") ∧ PySem.HandSPX.refsVE bm = true := by
  unfold exObjB at q
  split at q
  · rename_i dd cd sl ho
    split at q
    · rename_i C' bm k0 k1 k2 k3 n k5 hm hs
      simp only [Bool.and_eq_true, beq_iff_eq, Bool.not_eq_true'] at q
      obtain ⟨⟨⟨⟨rfl, rfl⟩, hdel⟩, hd⟩, hr⟩ := q
      obtain ⟨nm, bs, mro, ns, qn, hdc, sn, sub, ab, col, del⟩ := cd
      dsimp only at hm hdel hd
      subst hm hdel hd
      have hsl : sl = #[k0, k1, k2, k3, some (.builtin "ValueError.__new__"), k5] := by
        obtain ⟨l⟩ := sl
        simp only at hs
        rw [hs]
      subst hsl
      exact ⟨nm, qn, ns, bs, bm, sn, sub, ab, col, dd, k0, k1, k2, k3, k5, ho, hr⟩
    · cases q
  · cases q
def oexB (K : PySem.W.Frag) (C : Addr) : Bool := exObjB K C && (decide (PySem.W.findIn K (.ref C) "__setattr__" = some (some (.builtin "object.__setattr__"))) && (decide (PySem.W.subIn K (.ref C) (.type "BaseException") = some true) && (decide (PySem.W.typeIn K (.ref C) = some (.type "type")) && PySem.W.keepIn K (.ref C))))
theorem oexB_ok {K : PySem.W.Frag} {C : Addr} (h : oexB K C = true) : OexC K C := by
  obtain ⟨h1, h⟩ := Bool.and_eq_true_iff.mp h
  obtain ⟨h2, h⟩ := Bool.and_eq_true_iff.mp h
  obtain ⟨h3, h⟩ := Bool.and_eq_true_iff.mp h
  obtain ⟨h4, h5⟩ := Bool.and_eq_true_iff.mp h
  exact ⟨exObj_ok h1, of_decide_eq_true h2, of_decide_eq_true h3, of_decide_eq_true h4, h5⟩
def exCB (K : PySem.W.Frag) (x : Str) : Bool := oexB K (He.ga K x) && (xfB K (He.ga K x) && (decide (PySem.W.findIn K (.ref (He.ga K x)) "what" = some none) &&
  (decide (PySem.W.findIn K (.ref (He.ga K x)) "__init__" = some (some (.ref (He.ma K (He.ga K x) "__init__")))) && decide (PySem.W.typeIn K (.ref (He.ma K (He.ga K x) "__init__")) = some (.type "function")))))
theorem exCB_ok {K : PySem.W.Frag} {x : Str} (h : exCB K x = true) : ExC K x := by
  obtain ⟨h1, h⟩ := Bool.and_eq_true_iff.mp h
  obtain ⟨h2, h⟩ := Bool.and_eq_true_iff.mp h
  obtain ⟨h3, h⟩ := Bool.and_eq_true_iff.mp h
  obtain ⟨h4, h5⟩ := Bool.and_eq_true_iff.mp h
  exact ⟨oexB_ok h1, xfB_ok h2, of_decide_eq_true h3, of_decide_eq_true h4, of_decide_eq_true h5⟩
def exBB (K : PySem.W.Frag) (b : Str) : Bool := decide (PySem.W.specialIn K (.ref (He.ga K b)) "__getattribute__" = some (some (.builtin "type.__getattribute__"))) && (decide (PySem.W.typeIn K (.ref (He.ga K b)) = some (.type "type")) &&
  (PySem.W.readsIn K (He.ga K b) (.type "type") && (match PySem.W.findCls K (.ref (He.ga K b)) (.type "type") "__init__" with
    | some (.val (.builtin n)) => decide (n = "ValueError.__init__")
    | _ => false)))
theorem exBB_ok {K : PySem.W.Frag} {b : Str} (h : exBB K b = true) : ExB K b := by
  obtain ⟨h1, h⟩ := Bool.and_eq_true_iff.mp h
  obtain ⟨h2, h⟩ := Bool.and_eq_true_iff.mp h
  obtain ⟨h3, h4⟩ := Bool.and_eq_true_iff.mp h
  refine ⟨of_decide_eq_true h1, of_decide_eq_true h2, h3, ?_⟩
  split at h4
  · rename_i n e
    rw [e, of_decide_eq_true h4]
  · cases h4
section
variable {X : Cx} {P : PX} {W : WX} {a b c e o : Expr} {es : List Expr} {fa fb fe : FE} {fg : FA} {pos p p1 p2 : Pos} {ta : TA}
/-- BASE.__init__(self, ..) -/
theorem pe_vinit {x : Str} {pl : Sem Bool} (hg : Gl X x) (hm : X.mg x = some (.ref (He.ga X.K x))) (B : ExB X.K x) (ha : PA X (e :: es) ta) (hdb : (x == ("__debug__" : Str)) = false := by decide)
    (hc : eval (.Call (.Attribute (.Name x p1) "__init__" p2) (e :: es) [] pos) X.env = (do
      let ov ← eval (.Name x p1) X.env
      standAt p2.atName
      let (f, first) ← holding [ov] (getMethod ov "__init__" pl)
      callWith pos f first (backTo pos (starEach (e :: es) X.env)) (backToKw pos (keywordEach [] X.env))) := by rfl)
    (he : starEach (e :: es) X.env = (false, eval e X.env) :: starEach es X.env := by rfl) (hpl : (backTo pos (starEach es X.env)).any (·.1) = false := by rfl) :
    PE X (.Call (.Attribute (.Name x p1) "__init__" p2) (e :: es) [] pos) (tVeI X.K ta) := by
  refine ⟨fun pins s σ H Q I h => ?_⟩
  refine PySem.W.methodCall_KW (ld_glob I hg hm ?_ hdb) hc
  obtain ⟨m, fr⟩ := I.fr
  refine PySem.W.method_of_cls fr I.ok.mod.kin B.sp ?_
  refine PySem.W.cls_val fr I.ok.mod.kin B.ty B.rd B.fc (by decide +kernel) ?_
  show wpAny _ _ (callWith pos (Value.builtin "ValueError.__init__") [] (backTo pos (starEach (e :: es) X.env)) []) _ _ _
  refine PyProof.Rows.callWith_method1 (thn (ha.run pos pins _ σ H _ (I.tok _) h) fun us s1 ⟨vs, H1, I1, r1, a, C, ws, ev, hl, T, ea, q⟩ => ?_) he hpl
  subst ev
  cases r1 with
  | @cons _ u0 _ ur ra rw' =>
    obtain rfl : u0 = Value.ref a := ra
    have hlen : ur.length ≤ sizeLine := by
      rw [← Paired.length rw', sizeLine_eq]
      omega
    exact oinit_ok T I1 ea hlen fun s' J => ⟨.non, H1, J, rfl, q⟩
end
/-- what such an __init__ promises -/
def spI (C : Addr) : Sp := fun vs H Q _ => ∃ a z, vs = [.ref a, .str z] ∧ z.length ≤ 1000000 ∧ H a = some (exo a C none) ∧ ∀ dx, H dx = none → dx ≠ a → Q .non (upd (upd H dx (exd dx [("what", .str z)])) a (exo a C (some dx)))
def tInit (K : PySem.W.Frag) (t : Str) : TS := tSeq (tDrop (tVeI K (tCons (tVar 0) (tCons (tOp (fun x y H Q => ∃ i j, x = .str i ∧ y = .str j ∧ i.length + j.length ≤ sizeLine ∧ Q (.str (i ++ j)) H) (tC (.str t)) (tVar 1)) tNil)))) (tOst K "what" (tVar 0) (tVar 1))
section
variable {P : Program} {w : World} {K : PySem.W.Frag} {mg : Str → Option Value} {base : Heap} {x qual : Str} {params : Arguments} {scope : Scope} {f : Addr} {fd : FuncData} {t : Str} {body : List Stmt}
theorem ok_init (F : FunD K "__init__" qual params body scope [] [] f fd) (S : FnScope ["self", "what"] ["self", "what"] scope) (T : ExC K x) (hl : t.length ≤ 1000)
    (hb : ∀ (cdv : Value) (A : Around) (outer : List PySem.Env) (s : Shared) (H : Hp) (E : XK), PSs (cxOf (L2.CX P w) P w K mg base ["self", "what"] qual scope f cdv A outer s H E) body (tInit K t)) :
    FnOk P w K mg base (L2.CX P w) 1 f fd ["self", "what"] (spI (He.ga K x)) := by
  refine F.ok S (fun vs H Q E h => ?_) (fun cdv A outer s H vs Q E hr h => ⟨_, hb cdv A outer s H E, ?_⟩)
  · obtain ⟨a, z, rfl, _⟩ := h
    rfl
  · obtain ⟨a, z, rfl, hz, ea, q⟩ := h
    refine ⟨_, rfl, _, rfl, t, z, rfl, rfl, by rw [sizeLine_eq]; omega, a, He.ga K x, _, rfl, by show 1 ≤ 1000; decide, T.ox, ea, ?_⟩
    exact ⟨_, rfl, _, rfl, a, He.ga K x, rfl, T.ox, T.noW, .inl ⟨ea, fun dx n ne => q dx n ne⟩⟩
end
/-- raise X('..') -/
def sRaise (x : Str) (f : FA) : FS := fun ρ μ => (f ρ μ).st ρ fun ss μ1 => match ss with
  | [.v (.str z)] => if z.length ≤ 1000000 then .exc ⟨x, ["what"], [.str z]⟩ ρ μ1 else .stuck
  | _ => .stuck
section
variable {X : Cx} {P : PX} {W : WX} {e : Expr} {fg : FA} {pos p pos2 : Pos}
theorem ds_raise {k : Nat} {fd : FuncData} {x : Str} (hc : X.calm = true) (tk : Takes X W) (T : ExC X.K x) (hm : X.mg x = some (.ref (He.ga X.K x))) (hg : Gl X x) (F1 : FnOk X.prog X.w X.K X.mg X.base (L2.CX X.prog X.w) k (He.ma X.K (He.ga X.K x) "__init__") fd ["self", "what"] (spI (He.ga X.K x))) (hr : Room (k + 1) X.A) (hb : Binds X.K fd ["self", "what"] [])
    (ha : DA X P W [e] fg) (hdb : (x == ("__debug__" : Str)) = false := by decide) (he : starEach [e] X.env = (false, eval e X.env) :: starEach [] X.env := by rfl) (hpl : (backTo pos (starEach [] X.env)).any (·.1) = false := by rfl) :
    DS X P W (.Raise (some (.Call (.Name x p) [e] [] pos)) none pos2) (sRaise x fg) :=
  (ps_raise hc tk (pmk_oex T.ox T.iC T.tI F1 hr hb .nil passL hg hm ha.pa hdb he hpl)).to fun D σ H h => by
    obtain ⟨G, μ, ρ, he, h⟩ := h
    refine ⟨G, μ, ρ, he, h.bind he fun ss μ1 vs G1 H1 x1 R1 r1 h1 => ?_⟩
    match ss, vs, r1, h1 with
    | [.v (.str z)], [_], .cons q .nil, h1 =>
      cases q
      by_cases hz : z.length ≤ 1000000
      · simp only [if_pos hz] at h1
        refine ⟨by show 1 ≤ 1000; decide, fun a na => ⟨a, z, rfl, hz, upd_same, fun dx nd ne => ⟨rfl, dx, [("what", .str z)], upd_same, ?_, ?_, ?_⟩⟩⟩
        · rw [upd_ne ne, upd_same]
        · have z2 : upd H1 a (exo a (He.ga X.K x) none) dx = none := nd
          rw [upd_ne ne] at z2
          exact z2
        · have nd1 : H1 dx = none := by
            have z2 : upd H1 a (exo a (He.ga X.K x) none) dx = none := nd
            rw [upd_ne ne] at z2
            exact z2
          have eH : upd (del (upd (upd (upd H1 a (exo a (He.ga X.K x) none)) dx (exd dx [("what", .str z)])) a (exo a (He.ga X.K x) (some dx))) a) dx (.xd [("what", .str z)]) = upd H1 dx (.xd [("what", .str z)]) := by
            funext b
            by_cases hb : b = dx
            · rw [hb, upd_same, upd_same]
            · rw [upd_ne hb, upd_ne hb]
              by_cases hba : b = a
              · rw [hba, del_same, na]
              · rw [del_ne hba, upd_ne hba, upd_ne hb, upd_ne hba]
          rw [eH]
          exact h1 (some dx) σ G1 _ (Ext.new nd1) (R1.new nd1) (R1.env (Ext.new nd1) (he.rel.env x1 he.env)) (.inr ⟨dx, _, rfl, upd_same, rfl, .cons (.str z) .nil⟩)
      · simp only [if_neg hz] at h1
        exact h1.elim
end

/-! ### try: .. except X as n: .. -/
def clrX (ρ : Env) : Env := ρ.map fun o => match o with
  | some (.x _) => none
  | o => o
/-- behind an except suite: its name is gone -/
def SOut.unx (i : Nat) : SOut → SOut
  | .go (.rt (.x _)) _ _ => .stuck
  | .go c ρ μ => .go c (clrX (ρ.set i none)) μ
  | _ => .stuck
def sTry (cs : List (Str × Bool)) (i : Nat) (f g : FS) : FS := fun ρ μ => match f ρ μ with
  | .exc e ρ1 μ1 => match cs.lookup e.cls with
    | some true => (g ((clrX ρ1).set i (some (.x e))) μ1).unx i
    | some false => .exc e ρ1 μ1
    | none => .stuck
  | o => o
/-- .. without a name -/
def sTryN (cs : List (Str × Bool)) (f g : FS) : FS := fun ρ μ => match f ρ μ with
  | .exc e ρ1 μ1 => match cs.lookup e.cls with
    | some true => match g (clrX ρ1) μ1 with
      | .go (.rt (.x _)) _ _ => .stuck
      | .go c ρ μ => .go c (clrX ρ) μ
      | _ => .stuck
    | some false => .exc e ρ1 μ1
    | none => .stuck
  | o => o
theorem clrX_get {ρ : Env} {i : Nat} {s : Sl} (h : (clrX ρ)[i]? = some (some s)) : ρ[i]? = some (some s) ∧ ∀ e, s ≠ .x e := by
  unfold clrX at h
  rw [List.getElem?_map] at h
  cases q : ρ[i]? with
  | none => rw [q] at h; cases h
  | some o =>
    rw [q] at h
    cases o with
    | none => cases h
    | some t =>
      cases t with
      | x e => cases h
      | v d => cases h; exact ⟨rfl, fun e z => by cases z⟩
      | c n => cases h; exact ⟨rfl, fun e z => by cases z⟩
section
variable {K : PySem.W.Frag} {G G1 : Gh} {H H1 : Hp} {μ : Store} {ex' : Option (Addr × Str × Option Addr)}
theorem SlRep.ex {s : Sl} {v : V} (h : SlRep K G H s v) (n : ∀ e, s ≠ .x e) : SlRep K { G with ex := ex' } H s v := by
  cases s with
  | v d => exact h
  | c m => exact h
  | x e => exact absurd rfl (n e)
theorem EnvOk.clr {ρ : Env} {σ : L2.St} (h : EnvOk K G H ρ σ) : EnvOk K { G with ex := ex' } H (clrX ρ) σ := by
  refine ⟨by unfold clrX; rw [List.length_map]; exact h.len, fun i s e => ?_⟩
  obtain ⟨e1, n⟩ := clrX_get e
  obtain ⟨v, e2, r⟩ := h.has i s e1
  exact ⟨v, e2, r.ex n⟩
theorem Rel.ex (R : Rel K G μ H) : Rel K { G with ex := ex' } μ H := ⟨R.dom, R.len, R.cell, R.live, R.inj⟩
theorem Ext.exl {G2 : Gh} {H2 : Hp} (x : Ext G H G1 H1) (y : Ext { G1 with ex := ex' } H1 G2 H2) : Ext G H { G2 with ex := G.ex } H2 := by
  have y' : Ext G1 H1 { G2 with ex := G1.ex } H2 := ⟨y.keep, y.F, y.newF, y.newA, y.back, y.le, rfl, y.kept⟩
  have z := x.trans y'
  exact ⟨z.keep, z.F, z.newF, z.newA, z.back, z.le, rfl, z.kept⟩
theorem ExcAt.ex {e : Exc} {d : Option Addr} (h : ExcAt K G H e d) : ExcAt K { G with ex := ex' } H e d := h
end
theorem PSs.ex {X : Cx} {st : List Stmt} {α : Type} {t : α → TS} (h : ∀ a, PSs X st (t a)) : PSs X st (fun D σ H => ∃ a, t a D σ H) := ⟨fun pins s σ H D I ⟨a, q⟩ => (h a).run pins s σ H D I q⟩
theorem PSs.pre {X : Cx} {st : List Stmt} {p : Prop} {t : TS} (h : p → PSs X st t) : PSs X st (fun D σ H => p ∧ t D σ H) := ⟨fun pins s σ H D I ⟨a, q⟩ => (h a).run pins s σ H D I q⟩
section
variable {X : Cx} {P : PX} {W : WX} {x n : Str} {i : Nat} {body suite : List Stmt} {b₀ : Stmt} {np pos pos' : Pos} {f g : FS} {cs : List (Str × Bool)}
/-- what the suite's rules are to show: X' its context, xn the error's class -/
abbrev SuiteD (cs : List (Str × Bool)) (X : Cx) (st : List Stmt) (g : FS) : Prop := ∀ (a : Addr) (oe : Obj) (xn : Str) (d : Option Addr) (pn : List (Addr × Obj)), cs.lookup xn = some true → Zc (.ref (He.ga X.K xn)) d oe → (∃ vs, oe.data = .fields vs) → DSs (X.suite a ((a, oe) :: pn)) (fun ex => ex = some (a, xn, d)) W0 st g
theorem ds_try (hs : X.stack = X.env :: X.outer) (hf : X.env.frame = some X.env.locals) (hN : X.N.Nodup) (hi : X.N[i]? = some n) (hln : X.env.kindOf n = some .local) (hc : Names X x (.ref (He.ga X.K x))) (tk : Takes X W)
    (hcs : ∀ p ∈ cs, PySem.W.exmOne X.K (.ref (He.ga X.K p.1)) (.ref (He.ga X.K x)) = some p.2)
    (hb : ∀ (W : WX) (pn : List (Addr × Obj)) (xe : Value → Shared → Prop), Takes (X.tr pn xe) W → PassesOwn (model X.prog X.w) X.A X.env xe → DSs (X.tr pn xe) P W body f)
    (hsu : SuiteD cs X (b₀ :: suite) g) : DS X P W (.Try body [.ExceptHandler (some (.Name x np)) (some n) (b₀ :: suite) pos'] [] [] pos) (sTry cs i f g) :=
  (ps_try_as (i := i) (tb := fun W => TDS X.K P W f) (ts := fun a cls d => fun D σ H => ∃ xn, cls = .ref (He.ga X.K xn) ∧ cs.lookup xn = some true ∧ TDS X.K (fun ex => ex = some (a, xn, d)) W0 g D σ H) hs hf hN hi hln hc tk hb
    (fun a oe cls d pn hz hd => PSs.ex fun xn => PSs.pre fun e => PSs.pre fun hl => by subst e; exact hsu a oe xn d pn hl hz hd)).to fun D σ H h => by
    obtain ⟨G, μ, ρ, he, h⟩ := h
    refine ⟨G, μ, ρ, he, ?_⟩
    unfold sTry at h
    cases q : f ρ μ with
    | stuck => rw [q] at h; exact h
    | go c ρ1 μ1 => rw [q] at h; exact h
    | exc e ρ1 μ1 =>
      simp only [q] at h
      intro d σ' G' H' x1 R1 e1 ea
      cases q2 : cs.lookup e.cls with
      | none => rw [q2] at h; exact h.elim
      | some k =>
        have hm := hcs (e.cls, k) (PySem.mem_of_lookup q2)
        cases k with
        | false =>
          rw [q2] at h
          exact ⟨false, hm, fun z => by (cases z), fun _ => h d σ' G' H' x1 R1 e1 ea⟩
        | true =>
          simp only [q2] at h
          refine ⟨true, hm, fun _ a na => ?_, fun z => by (cases z)⟩
          refine ⟨e.cls, rfl, q2, { G' with ex := some (a, e.cls, d) }, μ1, _, ⟨rfl, R1.ex, (EnvOk.clr e1).set (s := .x e) ⟨a, d, rfl, rfl, ea⟩ i⟩, ?_⟩
          cases q3 : g ((clrX ρ1).set i (some (.x e))) μ1 with
          | stuck => rw [q3] at h; exact h.elim
          | exc _ _ _ => rw [q3] at h; exact h.elim
          | go c ρ3 μ3 =>
            rw [q3] at h
            intro σ3 G3 H3 x3 R3 e3
            have x4 := x1.exl x3
            cases c with
            | nx => exact h _ _ H3 x4 R3.ex ((e3.unset i).clr)
            | bk => exact h _ _ H3 x4 R3.ex ((e3.unset i).clr)
            | ct => exact h _ _ H3 x4 R3.ex ((e3.unset i).clr)
            | rt s =>
              cases s with
              | x _ => exact h.elim
              | v d => exact fun v r => h _ _ H3 x4 R3.ex ((e3.unset i).clr) v r
              | c m => exact fun v r => h _ _ H3 x4 R3.ex ((e3.unset i).clr) v r
theorem ds_tryN (hs : X.stack = X.env :: X.outer) (hf : X.env.frame = some X.env.locals) (hc : Names X x (.ref (He.ga X.K x))) (tk : Takes X W)
    (hcs : ∀ p ∈ cs, PySem.W.exmOne X.K (.ref (He.ga X.K p.1)) (.ref (He.ga X.K x)) = some p.2)
    (hb : ∀ (W : WX) (pn : List (Addr × Obj)) (xe : Value → Shared → Prop), Takes (X.tr pn xe) W → PassesOwn (model X.prog X.w) X.A X.env xe → DSs (X.tr pn xe) P W body f)
    (hsu : SuiteD cs X (b₀ :: suite) g) : DS X P W (.Try body [.ExceptHandler (some (.Name x np)) none (b₀ :: suite) pos'] [] [] pos) (sTryN cs f g) :=
  (ps_try_only (tb := fun W => TDS X.K P W f) (ts := fun a cls d => fun D σ H => ∃ xn, cls = .ref (He.ga X.K xn) ∧ cs.lookup xn = some true ∧ TDS X.K (fun ex => ex = some (a, xn, d)) W0 g D σ H) hs hf hc tk hb
    (fun a oe cls d pn hz hd => PSs.ex fun xn => PSs.pre fun e => PSs.pre fun hl => by subst e; exact hsu a oe xn d pn hl hz hd)).to fun D σ H h => by
    obtain ⟨G, μ, ρ, he, h⟩ := h
    refine ⟨G, μ, ρ, he, ?_⟩
    unfold sTryN at h
    cases q : f ρ μ with
    | stuck => rw [q] at h; exact h
    | go c ρ1 μ1 => rw [q] at h; exact h
    | exc e ρ1 μ1 =>
      simp only [q] at h
      intro d σ' G' H' x1 R1 e1 ea
      cases q2 : cs.lookup e.cls with
      | none => rw [q2] at h; exact h.elim
      | some k =>
        have hm := hcs (e.cls, k) (PySem.mem_of_lookup q2)
        cases k with
        | false =>
          rw [q2] at h
          exact ⟨false, hm, fun z => by (cases z), fun _ => h d σ' G' H' x1 R1 e1 ea⟩
        | true =>
          simp only [q2] at h
          refine ⟨true, hm, fun _ a na => ?_, fun z => by (cases z)⟩
          refine ⟨e.cls, rfl, q2, { G' with ex := some (a, e.cls, d) }, μ1, _, ⟨rfl, R1.ex, EnvOk.clr e1⟩, ?_⟩
          cases q3 : g (clrX ρ1) μ1 with
          | stuck => rw [q3] at h; exact h.elim
          | exc _ _ _ => rw [q3] at h; exact h.elim
          | go c ρ3 μ3 =>
            rw [q3] at h
            intro σ3 G3 H3 x3 R3 e3
            have x4 := x1.exl x3
            cases c with
            | nx => exact h _ _ H3 x4 R3.ex e3.clr
            | bk => exact h _ _ H3 x4 R3.ex e3.clr
            | ct => exact h _ _ H3 x4 R3.ex e3.clr
            | rt s =>
              cases s with
              | x _ => exact h.elim
              | v d => exact fun v r => h _ _ H3 x4 R3.ex e3.clr v r
              | c m => exact fun v r => h _ _ H3 x4 R3.ex e3.clr v r
end
/-- err.what in the suite -/
def Exc.what (e : Exc) : Option D := if e.fs = [("what" : Str)] then (match e.vs with | [d] => some d | _ => none) else none
def fWhat (f : FE) : FE := fun ρ μ => (f ρ μ).bind fun s μ1 => match s with
  | .x e => (match e.what with | some d => .ok (.v d) μ1 | none => .stuck)
  | _ => .stuck
theorem what_of {e : Exc} {d : D} (h : e.what = some d) : e.fs = [("what" : Str)] ∧ e.vs = [d] := by
  unfold Exc.what at h
  split at h
  · rename_i b
    split at h
    · rename_i q
      cases h
      exact ⟨b, q⟩
    · cases h
  · cases h
theorem de_what {X : Cx} {W : WX} {a : Addr} {oe : Obj} {xn : Str} {d : Option Addr} {pn : List (Addr × Obj)} {e : Expr} {fe : FE} {pos : Pos} (T : ExC X.K xn) (hz : Zc (.ref (He.ga X.K xn)) d oe) (hd : ∃ vs, oe.data = .fields vs)
    (he : DE (X.suite a ((a, oe) :: pn)) (fun ex => ex = some (a, xn, d)) W e fe) (hb : attributeBase e "what" X.env (eval e X.env) = eval e X.env := by rfl) : DE (X.suite a ((a, oe) :: pn)) (fun ex => ex = some (a, xn, d)) W (.Attribute e "what" pos) (fWhat fe) := by
  refine (pe_xf (C := He.ga X.K xn) (n := "what") T.xf T.noW hz hd he hb).to fun σ H Q h => ?_
  obtain ⟨G, μ, ρ, hh, h⟩ := h
  refine ⟨G, μ, ρ, hh, Post.bind h fun s μ1 v G1 H1 x1 R1 r1 h1 => ?_⟩
  cases s with
  | v d => exact h1.elim
  | c m => exact h1.elim
  | x ee =>
    obtain ⟨a', d', e1, e2, e3⟩ := r1
    have hp : G1.ex = some (a, xn, d) := by rw [x1.ex]; exact hh.p
    rw [hp] at e1
    injection e1 with e1
    injection e1 with e0 e1
    injection e1 with e1 e1'
    subst e0 e1'
    simp only at h1
    cases q : ee.what with
    | none => rw [q] at h1; exact h1.elim
    | some dv =>
      rw [q] at h1
      obtain ⟨q2, q3⟩ := what_of q
      rcases e3 with ⟨f1, _, _⟩ | ⟨dd, fv, e4, e5, e6, e7⟩
      · rw [q2] at f1
        cases f1
      · refine ⟨e2, rfl, dd, fv, ?_⟩
        rw [q2] at e6
        rw [q3] at e7
        cases fv with
        | nil => cases e6
        | cons q fv =>
          cases fv with
          | cons _ _ => injection e6 with _ e6; cases e6
          | nil =>
            obtain ⟨qn, qv⟩ := q
            injection e6 with e6 _
            simp only at e6
            subst e6
            cases e7 with
            | cons r _ => exact ⟨qv, e4, e5, rfl, Post.val R1 h1 r⟩
end DL

namespace DL
open PySem PySem.Spec PyProof.Rows L2

/-! ### sorted(xs) -/
/-- alike data, any number: the library's order -/
def rSortD (K : PySem.W.Frag) : List V → Hp → VK → Prop := fun vs H Q => ∃ (a : Addr) (xs : List V) (ds : List D) (Rv : D → V → Prop), vs = [.ref a] ∧ SqL K H a xs ∧ Paired Rv ds xs ∧ (∀ d v, Rv d v → Dp K H v d.py) ∧
  PySem.W.AllAlike (ds.map D.py) ∧ PySem.W.Sortable (ds.map D.py) ∧ (∀ d ∈ ds, d.py.depth ≤ 64) ∧
  ∀ ys p, Paired Rv (ds.mergeSort (PySem.W.dataLe false D.py)) ys → H p = none → Q (.ref p) (upd H p (.lst ys))
theorem each_of {X : Cx} {pins : List (Addr × Obj)} {σ : L2.St} {H : Hp} {s : Shared} {Rv : D → V → Prop} : ∀ {ds : List D} {xs : List V} {us : List Value}, Paired Rv ds xs → Vals xs us → PySem.W.EachIs (fun u d => ∃ v, RelV v u ∧ Rv d v) us ds
  | [], _, _, .nil, .nil => .nil
  | _ :: _, _, _, .cons h t, .cons r rr => .cons ⟨_, r, h⟩ (each_of (X := X) (pins := pins) (σ := σ) (H := H) (s := s) t rr)
theorem of_each {Rv : D → V → Prop} : ∀ {us : List Value} {ds : List D}, PySem.W.EachIs (fun u d => ∃ v, RelV v u ∧ Rv d v) us ds → ∃ ys, Vals ys us ∧ Paired Rv ds ys
  | _, _, .nil => ⟨[], .nil, .nil⟩
  | _, _, .cons ⟨v, r, h⟩ t => by
    obtain ⟨ys, r2, p⟩ := of_each t
    exact ⟨v :: ys, .cons r r2, .cons h p⟩
theorem EachIs.mono' {α β : Type} {R S : α → β → Prop} : ∀ {as : List α} {bs : List β}, PySem.W.EachIs R as bs → (∀ a b, R a b → S a b) → PySem.W.EachIs S as bs
  | _, _, .nil, _ => .nil
  | _, _, .cons h t, f => .cons (f _ _ h) (EachIs.mono' t f)
theorem cr_sortD {X : Cx} (hu : X.A.units + 70 < cLine) : CallR X (.builtin "sorted") (rSortD X.K) := by
  intro pins s σ H vs us Q I r h
  obtain ⟨a, xs, ds, Rv, rfl, hs, hp, hd, hal, hso, hdep, q⟩ := h
  obtain ⟨its, rv, hl, hz⟩ := I.list hs
  rw [Vals.ref1 r]
  have e0 := each_of (X := X) (pins := pins) (σ := σ) (H := H) (s := s) hp rv
  refine PySem.W.sorted_data (enc := D.py) hl.isList e0 (EachIs.mono' e0 fun u d ⟨v, r, h⟩ => Dp.reads I _ _ _ (hd _ _ h) r) hal hso (by rw [hp.length]; exact hz) (fun b hb => by have := hdep b hb; omega) fun out hlen he => ?_
  obtain ⟨ys, r2, p2⟩ := of_each he
  obtain ⟨ep, he'⟩ := PyProof.Rows.sortedAll_at s.heap its out.toArray
  refine ⟨.ref _, upd H (s.heap.objs.size + 1) (.lst ys), I.laid (t' := s.toks) (fun _ _ => PyProof.Rows.sortedAll_old) (Nat.le_succ _) ⟨?_, out, ep, r2, he'⟩, rfl, q ys _ p2 (I.hok.fresh (Nat.le_succ _))⟩
  rw [r2.length, hlen, hp.length]
  exact hz
def isTN : PyData → Bool
  | .tuple (_ :: _) => true
  | _ => false
def isNT : PyData → Bool
  | .none => false
  | .tuple _ => false
  | _ => true
def sortOk (ds : List D) : Bool := ds.all (fun d => SeqAt.shaped d.py) && (ds.all (fun a => ds.all fun b => PySem.W.alike a.py b.py) && (ds.all (fun d => isTN d.py) || ds.all fun d => isNT d.py))
def sortD (ds : List D) : List D := ds.mergeSort (PySem.W.dataLe false D.py)
theorem RepL.paired {K : PySem.W.Frag} {F : Addr → Prop} {H : Hp} : ∀ {ds : List D} {vs : List V}, RepL K F H ds vs → Paired (Rep K F H) ds vs
  | _, _, .nil => .nil
  | _, _, .cons h t => .cons h (RepL.paired t)
theorem RepL.ofPaired {K : PySem.W.Frag} {F : Addr → Prop} {H : Hp} : ∀ {ds : List D} {vs : List V}, Paired (Rep K F H) ds vs → RepL K F H ds vs
  | _, _, .nil => .nil
  | _, _, .cons h t => .cons h (RepL.ofPaired t)
theorem paired_and {α β : Type} {R : α → β → Prop} {p : α → Prop} : ∀ {as : List α} {bs : List β}, Paired R as bs → (∀ a ∈ as, p a) → Paired (fun a b => R a b ∧ p a) as bs
  | _, _, .nil, _ => .nil
  | _, _, .cons h t, f => .cons ⟨h, f _ List.mem_cons_self⟩ (paired_and t fun a m => f a (List.mem_cons_of_mem _ m))
def sortF (nb : Bool) : D → Store → Out Sl := fun d μ => match d with
  | .lst ds => if sortOk ds = true then mk nb (.lst (sortD ds)) μ else .stuck
  | _ => .stuck
theorem cld_sort {K : PySem.W.Frag} (nb : Bool) : CallD K (rSortD K) (gc1 (sortF nb)) := cld1 fun G μ H σ W a x Q R ra p => by
  cases a with
  | lst ds =>
    obtain ⟨b, xs, rfl, hb, r⟩ := ra.lst
    have p' : Post (SlRep K) K W σ G H (if sortOk ds = true then mk nb (.lst (sortD ds)) μ else .stuck) Q := p
    by_cases hk : sortOk ds = true
    · rw [if_pos hk] at p'
      obtain ⟨h1, h2⟩ := Bool.and_eq_true_iff.mp hk
      obtain ⟨h3, h4⟩ := Bool.and_eq_true_iff.mp h2
      have sh : ∀ d ∈ ds, SeqAt.shaped d.py = true := fun d m => List.all_eq_true.mp h1 d m
      refine ⟨b, xs, ds, fun d v => Rep K G.F H d v ∧ SeqAt.shaped d.py = true, rfl, .of hb, paired_and r.paired sh, fun d v q => q.1.dp (SeqAt.canLay_of_shaped q.2), ?_, ?_, fun d m => SeqAt.depth_of_shaped (sh d m), fun ys q hy hq => ?_⟩
      · intro d hd d' hd'
        obtain ⟨u, m, rfl⟩ := List.mem_map.mp hd
        obtain ⟨v, n, rfl⟩ := List.mem_map.mp hd'
        exact List.all_eq_true.mp (List.all_eq_true.mp h3 u m) v n
      · rcases Bool.or_eq_true_iff.mp h4 with z | z
        · refine .inl fun d hd => ?_
          obtain ⟨u, m, rfl⟩ := List.mem_map.mp hd
          have w := List.all_eq_true.mp z u m
          unfold isTN at w
          split at w
          · rename_i x r e
            exact ⟨x, r, e⟩
          · cases w
        · refine .inr fun d hd => ?_
          obtain ⟨u, m, rfl⟩ := List.mem_map.mp hd
          have w := List.all_eq_true.mp z u m
          constructor
          · intro e; rw [e] at w; cases w
          · intro xs e; rw [e] at w; cases w
      · exact Post.mkL R p' hq (RepL.ofPaired (Paired.mapP hy fun _ _ q => q.1))
    · rw [if_neg hk] at p'
      exact p'.elim
  | _ => exact p.elim

/-! ### tests: is None, is -/
section
variable {X : Cx} {P : PX} {W : WX} {a b c e : Expr} {es : List Expr} {fa fb fc : FE} {ft fu : FT} {fg : FA} {pos p : Pos}
theorem dt_isN {j pos'} (ha : DE X P W a fa) : DT X P W (.Compare a [.Is] [.Constant .none j pos'] pos) (fTest (fUn fa (isNonF false))) := (pt_cmp (pc_isN ha) rfl).to fun σ H Q q => TD.un und_isN _ _ _ (TD.test σ H Q q)
theorem dt_notN {j pos'} (ha : DE X P W a fa) : DT X P W (.Compare a [.IsNot] [.Constant .none j pos'] pos) (fTest (fUn fa (isNonF true))) := (pt_cmp (pc_notN ha) rfl).to fun σ H Q q => TD.un und_notN _ _ _ (TD.test σ H Q q)
theorem dt_in (neg : Bool) (hu : X.A.units + 65 < cLine) (hm : behindInMarks (if neg = true then .NotIn else .In) b = false) (ha : DE X P W a fa) (hb : DE X P W b fb) : DT X P W (.Compare a [if neg = true then .NotIn else .In] [b] pos) (fTest (fBin fa fb (g2 (inF neg)))) := by
  cases neg with
  | true => exact dt_cmp (opr_notIn hu) (opd_in true) hm ha hb
  | false => exact dt_cmp (opr_in hu) (opd_in false) hm ha hb
end

/-! ### the head -/
structure HK where
  fa : List He.Fa
  fn : List He.DefD
  ex : PySem.W.Frag → Bool
def asC (g : Addr → Option Obj) : Nat → List Addr
  | 0 => [mainGlobals, cStatics]
  | n + 1 => He.growD g (asC g n)
abbrev AlC : Type := He.AlD × Bool
def obsK (hk : HK) (K : PySem.W.Frag) : AlC := (He.obsD hk.fa hk.fn K, hk.ex K)
def obsC (n : Nat) (hk : HK) (g : Addr → Option Obj) : AlC := obsK hk (He.frG g (asC g n))
def SaysC (hk : HK) (K : PySem.W.Frag) : Prop := He.SaysD hk.fa hk.fn K ∧ hk.ex K = true
def hookC (n : Nat) (hk : HK) : PySem.W.Hook where
  α := AlC
  obs := fun s => obsC n hk s.heap.get?
  val := fun _ => (He.valD hk.fn, true)
  says := fun _ h => ∃ K : PySem.W.Frag, K.In h ∧ SaysC hk K
  of := fun _ _ e => ⟨_, He.frG_in, congrArg Prod.fst e, congrArg Prod.snd e⟩
  keeps := fun _ _ _ ⟨K, hK, c⟩ k => ⟨K, PySem.W.Frag.In.keeps hK k, c⟩
theorem obsC_eq {n : Nat} {hk : HK} {g : Addr → Option Obj} {s : Shared} (h : ∀ a, g a = s.heap.get? a) : obsC n hk g = (hookC n hk).obs s := by
  have e : g = s.heap.get? := funext h
  rw [e] <;> rfl
/-- what a def's name stands for -/
structure FD (K : PySem.W.Frag) (mg : Str → Option Value) (x : Str) (params : Arguments) (body : List Stmt) (scope : Scope) (ps : List Str) (fd : FuncData) : Prop where
  F : FunD K x x params body scope [] [] (He.ga K x) fd
  m : mg x = some (.ref (He.ga K x))
  b : Binds K fd ps []
theorem hu65 {k : Nat} {A : Around} (r : Room k A) : A.units + 65 < cLine := by have := r.un; omega
theorem hu70 {k : Nat} {A : Around} (r : Room k A) : A.units + 70 < cLine := by have := r.un; omega
/-- a promise that nobody can use -/
theorem fn_none {P : Program} {w : World} {K : PySem.W.Frag} {mg : Str → Option Value} {base : Heap} {f : Addr} {fd : FuncData} {ps : List Str} {k : Nat} : FnOk P w K mg base (L2.CX P w) k f fd ps (spG K ps.length fun _ _ => .stuck) :=
  ⟨fun vs H Q E h => h.1, fun A outer s H args us vs Q E hr he hb hv hs => by
    obtain ⟨_, G, μ, ss, _, _, p⟩ := hs
    exact p.elim⟩
theorem fn_noneP {P : Program} {w : World} {K : PySem.W.Frag} {mg : Str → Option Value} {base : Heap} {f : Addr} {fd : FuncData} {ps : List Str} {k : Nat} : FnOk P w K mg base (L2.CX P w) k f fd ps (spG K ps.length (lift fun _ => .stuck)) :=
  fn_none.imp fun vs H Q E ⟨h0, G, μ, ss, R, r, p⟩ => by
    unfold lift at p
    split at p
    · exact p.elim
    · exact p.elim
/-- no exception leaves it -/
theorem fn_cx0 {P : Program} {w : World} {K : PySem.W.Frag} {mg : Str → Option Value} {base : Heap} {f : Addr} {fd : FuncData} {ps : List Str} {k : Nat} {sp : Sp} (F : FnOk P w K mg base (L2.CX P w) k f fd ps sp) :
    FnOk P w K mg base CX0 k f fd ps (fun vs H Q _ => sp vs H Q E0) :=
  ⟨fun vs H Q E h => F.len _ _ _ _ h, fun A outer s H args us vs Q E hr he hb hv hs => codeAny_mono (F.run A outer s H args us vs Q E0 hr he hb hv hs) fun r s' h => by
    cases r with
    | error e =>
      obtain ⟨_, _, _, _, _, _, _, _, _, _, _, _, z⟩ := h
      exact z.elim
    | ok fl => cases fl <;> exact h⟩
theorem law_sp {K : PySem.W.Frag} {φ : List Sl → Store → Out Sl} {ns : List Int} {μ' : Store} (hp : φ [.v (.fz (ns.map .int))] [] = .ok (.v (.bl true)) μ') {H : Hp} {a : Addr} (hO : Only H) (hS : SqL K H a (ns.map V.int)) :
    spG K 1 φ [.ref a] H (fun v _ => v = .bl true) E0 := by
  have hz : FzAt K H a (ns.map V.int) := by
    rcases hS with (h | h) | h
    · rcases hO a with n | ⟨o, xs, e⟩
      · rw [n] at h; cases h
      · rw [e] at h; cases h
    · exact .inl h
    · exact .inr h
  have rl : ∀ l : List Int, RepL K (fun _ => False) H (l.map D.int) (l.map V.int) := fun l => by
    induction l with
    | nil => exact .nil
    | cons i l ih => exact .cons (.int i) ih
  refine ⟨rfl, ⟨fun _ => False, [], none⟩, [], [.v (.fz (ns.map .int))], ⟨fun a f => f.elim, rfl, fun c d e => by simp at e, fun c a e => by simp at e, fun c c' a e => by simp at e⟩, .cons (Rep.fz hz (rl ns)) .nil, ?_⟩
  rw [hp]
  intro b G' H' x R r
  cases r
  rfl
end DL

namespace DL
open PySem PySem.Spec PyProof.Rows L2

/-! ### equations -/
section
variable {α β : Type} {a : α} {μ μ' ν : Store} {ρ ρ' : Env} {e : Exc} {k : α → Store → Out β} {ks : α → Store → SOut} {kf : FS} {s : Sl}
theorem bind_ok : (Out.ok a μ).bind k = k a μ := rfl
theorem bind_exc : (Out.exc e μ : Out α).bind k = .exc e μ := rfl
theorem bind_stuck : (Out.stuck : Out α).bind k = .stuck := rfl
theorem st_ok : (Out.ok a μ).st ρ ks = ks a μ := rfl
theorem st_exc : (Out.exc e μ : Out α).st ρ ks = .exc e ρ μ := rfl
theorem seq_nx : (SOut.go .nx ρ μ).seq kf = kf ρ μ := rfl
theorem seq_rt : (SOut.go (.rt s) ρ μ).seq kf = .go (.rt s) ρ μ := rfl
theorem seq_bk : (SOut.go .bk ρ μ).seq kf = .go .bk ρ μ := rfl
theorem seq_ct : (SOut.go .ct ρ μ).seq kf = .go .ct ρ μ := rfl
theorem seq_exc : (SOut.exc e ρ μ).seq kf = .exc e ρ μ := rfl
theorem turn_nx : (SOut.go .nx ρ μ).turn kf = kf ρ μ := rfl
theorem turn_ct : (SOut.go .ct ρ μ).turn kf = kf ρ μ := rfl
theorem turn_bk : (SOut.go .bk ρ μ).turn kf = .go .nx ρ μ := rfl
theorem turn_rt : (SOut.go (.rt s) ρ μ).turn kf = .go (.rt s) ρ μ := rfl
theorem turn_exc : (SOut.exc e ρ μ).turn kf = .exc e ρ μ := rfl
theorem mk_true {d : D} : mk true d μ = .ok (.c μ.length) (μ ++ [some d]) := rfl
theorem mk_false {d : D} : mk false d μ = .ok (.v d) μ := rfl
theorem runS_rt : runS (.go (.rt s) ρ μ) = .ok s μ := rfl
theorem runS_nx : runS (.go .nx ρ μ) = .ok (.v .non) μ := rfl
theorem runS_exc : runS (.exc e ρ μ) = .exc e μ := rfl
theorem forL_nil {tg : FG} {b : FS} : sForL tg b [] ρ μ = .go .nx ρ μ := rfl
theorem get_off {α : Type} (ν l : List α) (k : Nat) : (ν ++ l)[ν.length + k]? = l[k]? := by
  rw [List.getElem?_append_right (by omega)]; congr 1; omega
theorem get_off0 {α : Type} (ν l : List α) : (ν ++ l)[ν.length]? = l[0]? := get_off ν l 0
theorem set_off {α : Type} (ν l : List α) (k : Nat) (x : α) : (ν ++ l).set (ν.length + k) x = ν ++ l.set k x := by
  rw [List.set_append_right _ _ (by omega)]; congr 2; omega
theorem set_off0 {α : Type} (ν l : List α) (x : α) : (ν ++ l).set ν.length x = ν ++ l.set 0 x := set_off ν l 0 x
theorem take_len (x : Option D) : (x :: μ).take (μ.length + 1) = x :: μ := by rw [List.take_of_length_le]; simp
end

/-! ### shapes -/
def shp (n : Nat) (d : D) : Prop := d.py.canLay0 = true ∧ d.py.depth ≤ n
theorem shp_ok {d : D} (h : shp 64 d) : SeqAt.shaped d.py = true := Bool.and_eq_true_iff.mpr ⟨h.1, decide_eq_true h.2⟩
theorem shp_mono {n m : Nat} {d : D} (h : shp n d) (l : n ≤ m) : shp m d := ⟨h.1, Nat.le_trans h.2 l⟩
theorem shp_int (i : Int) (n : Nat) : shp n (.int i) := ⟨by simp [D.py, PyData.canLay0], by simp [D.py, PyData.depth]⟩
theorem shp_bl (i : Bool) (n : Nat) : shp n (.bl i) := ⟨by simp [D.py, PyData.canLay0], by simp [D.py, PyData.depth]⟩
theorem shp_non (n : Nat) : shp n .non := ⟨by simp [D.py, PyData.canLay0], by simp [D.py, PyData.depth]⟩
theorem shp_str {x : Str} (h : PyData.canLay0 (.str x) = true) (n : Nat) : shp n (.str x) := ⟨by simpa only [D.py] using h, by simp [D.py, PyData.depth]⟩
theorem shpL {n : Nat} : ∀ {ds : List D}, (∀ d ∈ ds, shp n d) → PyData.canLayAll0 (D.pyL ds) = true ∧ PyData.depthAll (D.pyL ds) ≤ n
  | [], _ => by simp [D.pyL, PyData.canLayAll0, PyData.depthAll]
  | d :: ds, h => by
    obtain ⟨h1, h2⟩ := h d List.mem_cons_self
    obtain ⟨h3, h4⟩ := shpL (ds := ds) fun x m => h x (List.mem_cons_of_mem _ m)
    simp only [D.pyL, PyData.canLayAll0, PyData.depthAll, Bool.and_eq_true]
    exact ⟨⟨h1, h3⟩, by omega⟩
theorem shp_lst {n : Nat} {ds : List D} (h : ∀ d ∈ ds, shp n d) : shp (n + 1) (.lst ds) := by
  obtain ⟨h1, h2⟩ := shpL h
  exact ⟨by simpa only [D.py, PyData.canLay0] using h1, by simp only [D.py, PyData.depth]; omega⟩
theorem shp_tup {n : Nat} {ds : List D} (h : ∀ d ∈ ds, shp n d) : shp (n + 1) (.tup ds) := by
  obtain ⟨h1, h2⟩ := shpL h
  exact ⟨by simpa only [D.py, PyData.canLay0] using h1, by simp only [D.py, PyData.depth]; omega⟩
theorem shp_ints (xs : List Int) (n : Nat) : shp (n + 1) (.lst (xs.map .int)) := shp_lst fun d m => by
  obtain ⟨i, _, rfl⟩ := List.mem_map.mp m
  exact shp_int i n
theorem shp_intsT (xs : List Int) (n : Nat) : shp (n + 1) (.tup (xs.map .int)) := shp_tup fun d m => by
  obtain ⟨i, _, rfl⟩ := List.mem_map.mp m
  exact shp_int i n

/-! ### ==, != -/
section
variable {μ : Store}
theorem eqF_self {d : D} (h : shp 64 d) : eqF d d μ = .ok (.v (.bl true)) μ := by
  unfold eqF; rw [if_pos ⟨shp_ok h, shp_ok h⟩, SeqAt.eqv_refl _ h.1]; rfl
theorem neF_self {d : D} (h : shp 64 d) : neF d d μ = .ok (.v (.bl false)) μ := by
  unfold neF; rw [if_pos ⟨shp_ok h, shp_ok h⟩, SeqAt.eqv_refl _ h.1]; rfl
theorem eqF_of {d e : D} (h : shp 64 d) (h2 : shp 64 e) {b : Bool} (q : PyData.eqv d.py e.py = b) : eqF d e μ = .ok (.v (.bl b)) μ := by
  unfold eqF; rw [if_pos ⟨shp_ok h, shp_ok h2⟩, q]; rfl
theorem neF_of {d e : D} (h : shp 64 d) (h2 : shp 64 e) {b : Bool} (q : PyData.eqv d.py e.py = b) : neF d e μ = .ok (.v (.bl !b)) μ := by
  unfold neF; rw [if_pos ⟨shp_ok h, shp_ok h2⟩, q]; rfl
theorem eqv_ints : ∀ xs ys : List Int, PyData.eqvAll (D.pyL (xs.map .int)) (D.pyL (ys.map .int)) = decide (xs = ys)
  | [], [] => by simp [D.pyL, PyData.eqvAll]
  | [], _ :: _ => by simp [D.pyL, PyData.eqvAll]
  | _ :: _, [] => by simp [D.pyL, PyData.eqvAll]
  | x :: xs, y :: ys => by
    simp only [List.map_cons, D.pyL, PyData.eqvAll, D.py, PyData.eqv, eqv_ints xs ys]
    simp [Bool.decide_and]
    rfl
theorem eqF_int (i j : Int) : eqF (.int i) (.int j) μ = .ok (.v (.bl (decide (i = j)))) μ := eqF_of (shp_int _ _) (shp_int _ _) (by simp only [D.py, PyData.eqv]; rfl)
theorem neF_int (i j : Int) : neF (.int i) (.int j) μ = .ok (.v (.bl !(decide (i = j)))) μ := neF_of (shp_int _ _) (shp_int _ _) (by simp only [D.py, PyData.eqv]; rfl)
theorem eqF_ints (xs ys : List Int) : eqF (.lst (xs.map .int)) (.lst (ys.map .int)) μ = .ok (.v (.bl (decide (xs = ys)))) μ := eqF_of (shp_ints _ 63) (shp_ints _ 63) (by simp only [D.py, PyData.eqv]; exact eqv_ints xs ys)
theorem neF_ints (xs ys : List Int) : neF (.lst (xs.map .int)) (.lst (ys.map .int)) μ = .ok (.v (.bl !(decide (xs = ys)))) μ := neF_of (shp_ints _ 63) (shp_ints _ 63) (by simp only [D.py, PyData.eqv]; exact eqv_ints xs ys)
theorem eqF_intsT (xs ys : List Int) : eqF (.tup (xs.map .int)) (.tup (ys.map .int)) μ = .ok (.v (.bl (decide (xs = ys)))) μ := eqF_of (shp_intsT _ 63) (shp_intsT _ 63) (by simp only [D.py, PyData.eqv]; exact eqv_ints xs ys)
theorem neF_intsT (xs ys : List Int) : neF (.tup (xs.map .int)) (.tup (ys.map .int)) μ = .ok (.v (.bl !(decide (xs = ys)))) μ := neF_of (shp_intsT _ 63) (shp_intsT _ 63) (by simp only [D.py, PyData.eqv]; exact eqv_ints xs ys)
end
end DL

namespace DL
open PySem PySem.Spec PyProof.Rows L2

/-! ### _law_take: 0 deck 1 many -/
def b_take : FS := sSeq (sIf (fTest (fBin (fCall (gc1 lenF) (fCons (fVar 0) (fNil))) (fC (.int 0)) (g2 eqF))) (sRet (fC (.int 0))) (sSkip)) (sRet (fBin (fCall (gc1 int1F) (fCons (fMeth isLst (fVar 0) fNil popG) (fNil))) (fVar 1) (g2 modF)))
def m_take : List Sl → Store → Out Sl := fun ss μ => runC μ.length (b_take (startE 2 ss) μ)
/-- what is drawn, what is left -/
def tk (deck : List Int) (k : Int) : Int := match deck[deck.length - 1]? with
  | some x => x.fmod k
  | none => 0
theorem take_eq (deck : List Int) (k : Int) (hk : k ≠ 0) (μ : Store) : m_take [.c 0, .v (.int k)] (some (.lst (deck.map .int)) :: μ) = .ok (.v (.int (tk deck k))) (some (.lst (deck.dropLast.map .int)) :: μ) := by
  by_cases h : deck = []
  · subst h
    simp [m_take, b_take, bind_ok, bind_exc, st_ok, st_exc, seq_nx, seq_rt, seq_bk, seq_ct, seq_exc, turn_nx, turn_ct, turn_bk, turn_rt, turn_exc, mk_true, mk_false, runS_rt, runS_nx, runS_exc, forL_nil, get_off, get_off0, set_off, set_off0, take_len,  sSeq, sIf, sSkip, sRet, sDrop, sAsg, sFor, sGhost, tFreeze, fTest, fBin, fUn, fCall, fCons, fNil, fVar, fC, fAnd, fOr, fNot, fIf, fLst, fTup, fChain, fAndV, fOrV, gNot, allV, g1, g2, gc1, gc2, Sl.get, okV, gNm, gUnp, gUnpL, gsNil, gsCons,  fSeq, fRng1, fRng2, fEnum, fComp, fYes, CT.put, setAll, wipeE, fMeth, isLst, lstAt, appendG, extendG, popG, popAtG, reverseG, countG, fNo, fPart, fSl, slF, revF, addF, subF, mulF, fdivF, modF, powF, ordF, negF, isNonF, isF, absF, max2F, min2F, int1F, lenF, listF, tupleF, sumF, maxF, minF, ixF,  gSubF, setL, sPar, sAug, runC, lift, pureOf, getAll, allVB, D.nol, D.nolL, startE, isiF, tyName, clsL, clsNm, isiB, eqF_int, neF_int, eqF_ints, neF_ints, eqF_intsT, neF_intsT, tk]
  · have hl : ¬ ((deck.length : Int) = 0) := by
      intro z; exact h (List.length_eq_zero_iff.mp (by omega))
    have hx : ∃ x, deck[deck.length - 1]? = some x := by
      have : deck.length ≠ 0 := fun z => h (List.length_eq_zero_iff.mp z)
      exact ⟨deck[deck.length - 1]'(by omega), List.getElem?_eq_getElem _⟩
    obtain ⟨x, hx⟩ := hx
    simp [m_take, b_take, bind_ok, bind_exc, st_ok, st_exc, seq_nx, seq_rt, seq_bk, seq_ct, seq_exc, turn_nx, turn_ct, turn_bk, turn_rt, turn_exc, mk_true, mk_false, runS_rt, runS_nx, runS_exc, forL_nil, get_off, get_off0, set_off, set_off0, take_len,  sSeq, sIf, sSkip, sRet, sDrop, sAsg, sFor, sGhost, tFreeze, fTest, fBin, fUn, fCall, fCons, fNil, fVar, fC, fAnd, fOr, fNot, fIf, fLst, fTup, fChain, fAndV, fOrV, gNot, allV, g1, g2, gc1, gc2, Sl.get, okV, gNm, gUnp, gUnpL, gsNil, gsCons,  fSeq, fRng1, fRng2, fEnum, fComp, fYes, CT.put, setAll, wipeE, fMeth, isLst, lstAt, appendG, extendG, popG, popAtG, reverseG, countG, fNo, fPart, fSl, slF, revF, addF, subF, mulF, fdivF, modF, powF, ordF, negF, isNonF, isF, absF, max2F, min2F, int1F, lenF, listF, tupleF, sumF, maxF, minF, ixF,  gSubF, setL, sPar, sAug, runC, lift, pureOf, getAll, allVB, D.nol, D.nolL, startE, isiF, tyName, clsL, clsNm, isiB, eqF_int, neF_int, eqF_ints, neF_ints, eqF_intsT, neF_intsT, tk, hl, hx, hk, h]
theorem tk_nonneg (deck : List Int) {k : Int} (hk : 0 < k) : 0 ≤ tk deck k := by
  unfold tk
  split
  · exact Int.fmod_nonneg_of_pos _ hk
  · exact Int.le_refl _
theorem tk_lt (deck : List Int) {k : Int} (hk : 0 < k) : tk deck k < k := by
  unfold tk
  split
  · exact Int.fmod_lt_of_pos _ hk
  · exact hk
/-! ### loops -/
theorem forL_ind {tg : FG} {body : FS} (I : Nat → Env → Store → Prop) (Fin : SOut → Prop) : ∀ (ds : List D) (k : Nat) (ρ : Env) (μ : Store), I k ρ μ →
    (∀ i d ρ μ, ds[i]? = some d → I (k + i) ρ μ → ∃ ρ1 μ1, tg (.v d) ρ μ = some (ρ1, μ1) ∧ ((∃ ρ2 μ2, (body ρ1 μ1 = .go .nx ρ2 μ2 ∨ body ρ1 μ1 = .go .ct ρ2 μ2) ∧ I (k + i + 1) ρ2 μ2) ∨ (∃ ρ2 μ2, body ρ1 μ1 = .go .bk ρ2 μ2 ∧ Fin (.go .nx ρ2 μ2)) ∨ (∃ s ρ2 μ2, body ρ1 μ1 = .go (.rt s) ρ2 μ2 ∧ Fin (.go (.rt s) ρ2 μ2)) ∨ ∃ e ρ2 μ2, body ρ1 μ1 = .exc e ρ2 μ2 ∧ Fin (.exc e ρ2 μ2))) →
    (∀ ρ μ, I (k + ds.length) ρ μ → Fin (.go .nx ρ μ)) → Fin (sForL tg body ds ρ μ)
  | [], k, ρ, μ, h0, _, he => he ρ μ h0
  | d :: ds, k, ρ, μ, h0, hs, he => by
    obtain ⟨ρ1, μ1, e1, h⟩ := hs 0 d ρ μ rfl h0
    unfold sForL
    rw [e1]
    rcases h with ⟨ρ2, μ2, e2, h⟩ | ⟨ρ2, μ2, e2, h⟩ | ⟨s, ρ2, μ2, e2, h⟩ | ⟨e, ρ2, μ2, e2, h⟩
    · have key := forL_ind I Fin ds (k + 1) ρ2 μ2 h (fun i d ρ μ hd hi => by
        have z := hs (i + 1) d ρ μ (by simpa using hd) (by rw [show k + (i + 1) = k + 1 + i by omega]; exact hi)
        rw [show k + (i + 1) + 1 = k + 1 + i + 1 by omega] at z
        exact z) (fun ρ μ hi => he ρ μ (by rw [List.length_cons, show k + (ds.length + 1) = k + 1 + ds.length by omega]; exact hi))
      rcases e2 with e2 | e2 <;> (simp only [e2]; exact key)
    · simp only [e2]; exact h
    · simp only [e2]; exact h
    · simp only [e2]; exact h
theorem forL_inv {tg : FG} {body : FS} (I : Nat → Env → Store → Prop) {ds : List D} {ρ : Env} {μ : Store} (h0 : I 0 ρ μ)
    (hs : ∀ i d ρ μ, ds[i]? = some d → I i ρ μ → ∃ ρ1 μ1 ρ2 μ2, tg (.v d) ρ μ = some (ρ1, μ1) ∧ body ρ1 μ1 = .go .nx ρ2 μ2 ∧ I (i + 1) ρ2 μ2) : ∃ ρ' μ', sForL tg body ds ρ μ = .go .nx ρ' μ' ∧ I ds.length ρ' μ' := by
  refine forL_ind (fun i ρ μ => I i ρ μ) (fun o => ∃ ρ' μ', o = .go .nx ρ' μ' ∧ I ds.length ρ' μ') ds 0 ρ μ h0 (fun i d ρ μ hd hi => ?_) (fun ρ μ hi => ⟨ρ, μ, rfl, by rw [Nat.zero_add] at hi; exact hi⟩)
  rw [Nat.zero_add] at hi
  obtain ⟨ρ1, μ1, ρ2, μ2, e1, e2, h⟩ := hs i d ρ μ hd hi
  exact ⟨ρ1, μ1, e1, .inl ⟨ρ2, μ2, .inl e2, by rw [Nat.zero_add]; exact h⟩⟩
theorem rangeD_len (lo : Int) (n : Nat) : (rangeD lo n).length = n := by simp [rangeD]
theorem rangeD_get {lo : Int} {n i : Nat} {d : D} (h : (rangeD lo n)[i]? = some d) : i < n ∧ d = .int (lo + (i : Nat)) := by
  unfold rangeD at h
  rw [List.getElem?_map] at h
  cases e : (List.range n)[i]? with
  | none => rw [e] at h; cases h
  | some j =>
    rw [e] at h
    obtain ⟨h1, h2⟩ := List.getElem?_eq_some_iff.mp e
    simp at h1 h2
    subst h2
    cases h
    exact ⟨h1, rfl⟩

/-! ### _law_deck: 0 script 1 cells 2 each 3 deck 4 seed 5 k 6 cell 7 rest 8 at -/
def b_deck_1 : FS := sSeq (sDrop (fMeth isLst (fVar 3) (fCons (fBin (fCall (gc1 int1F) (fCons (fVar 7) (fNil))) (fC (.int 1000003)) (g2 modF)) (fNil)) appendG)) (sAsg (fBin (fVar 7) (fC (.int 1000003)) (g2 fdivF)) (gNm 7))
def b_deck_2 : FS := sSeq (sAsg (fBin (fCall (gc1 int1F) (fCons (fBin (fBin (fBin (fVar 4) (fC (.int 69621)) (g2 (mulF false))) (fVar 8) (g2 (addF false))) (fC (.int 1)) (g2 (addF false))) (fNil))) (fC (.int 2147483629)) (g2 modF)) (gNm 4)) (sDrop (fMeth isLst (fVar 3) (fCons (fBin (fCall (gc1 int1F) (fCons (fBin (fVar 4) (fC (.int 5)) (g2 fdivF)) (fNil))) (fC (.int 1000003)) (g2 modF)) (fNil)) appendG))
def b_deck_3 : FS := sSeq (sAsg (fC (.int 0)) (gNm 6)) (sSeq (sIf (fTest (fBin (fVar 5) (fCall (gc1 lenF) (fCons (fVar 0) (fNil))) (g2 ltF))) (sAsg (fBin (fVar 0) (fVar 5) (g2 ixF)) (gNm 6)) (sSkip)) (sSeq (sAsg (fCall (gc1 absF) (fCons (fVar 6) (fNil))) (gNm 7)) (sIf (fTest (fBin (fVar 7) (fBin (fC (.int 10)) (fC (.int 30)) (g2 powF)) (g2 geF))) (sFor (fRng1 (fCons (fVar 2) (fNil))) (gNm 8) (b_deck_1)) (sSeq (sAsg (fBin (fCall (gc1 int1F) (fCons (fBin (fBin (fBin (fBin (fVar 4) (fC (.int 48271)) (g2 (mulF false))) (fBin (fC (.int 2)) (fVar 7) (g2 (mulF false))) (g2 (addF false))) (fCall (gc1 int1F) (fCons (fBin (fVar 6) (fC (.int 0)) (g2 ltF)) (fNil))) (g2 (addF false))) (fVar 5) (g2 (addF false))) (fNil))) (fC (.int 2147483647)) (g2 modF)) (gNm 4)) (sFor (fRng1 (fCons (fVar 2) (fNil))) (gNm 8) (b_deck_2))))))
def b_deck : FS := sSeq (sAsg (fLst true (fNil)) (gNm 3)) (sSeq (sAsg (fBin (fC (.int 7)) (fCall (gc1 lenF) (fCons (fVar 0) (fNil))) (g2 (addF false))) (gNm 4)) (sSeq (sFor (fRng1 (fCons (fVar 1) (fNil))) (gNm 5) (b_deck_3)) (sSeq (sDrop (fMeth isLst (fVar 3) fNil reverseG)) (sRet (fVar 3)))))
def m_deck : List Sl → Store → Out Sl := fun ss μ => runS (b_deck (startE 9 ss) μ)
theorem mulOk_r (i : Int) (j : Int) (h : (decide (-(2 ^ 64) < j) && decide (j < 2 ^ 64)) = true) : mulOk i j = true := by unfold mulOk; rw [h]; simp
theorem mulOk_l (i : Int) (j : Int) (h : (decide (-(2 ^ 64) < i) && decide (i < 2 ^ 64)) = true) : mulOk i j = true := by unfold mulOk; rw [h]; simp
/-- the state between the turns: l the deck so far -/
def dkI (ns : List Int) (c e : Nat) (m : Nat) (ρ : Env) (μ : Store) : Prop := ∃ (sd : Int) (o5 o6 o7 o8 : Option Sl) (l : List Int), ρ = [some (.v (.fz (ns.map .int))), some (.v (.int c)), some (.v (.int e)), some (.c 0), some (.v (.int sd)), o5, o6, o7, o8] ∧ μ = [some (.lst (l.map .int))] ∧ l.length = m ∧ ∀ x ∈ l, 0 ≤ x
theorem deck_1 (ns : List Int) (c e n : Nat) (hn : n + e ≤ lim) {sd : Int} {o5 o6 : Option Sl} {o8 : Option Sl} {r : Int} {l : List Int} (hl : l.length = n) (hp : ∀ x ∈ l, 0 ≤ x) :
    ∃ ρ' μ', sForL (gNm 8) b_deck_1 (rangeD 0 e) [some (.v (.fz (ns.map .int))), some (.v (.int c)), some (.v (.int e)), some (.c 0), some (.v (.int sd)), o5, o6, some (.v (.int r)), o8] [some (.lst (l.map .int))] = .go .nx ρ' μ' ∧ dkI ns c e (n + e) ρ' μ' := by
  obtain ⟨ρ', μ', e1, sd', p5, p6, r', p8, l', h⟩ := forL_inv (tg := gNm 8) (body := b_deck_1) (ds := rangeD 0 e) (fun i ρ μ => ∃ (sd : Int) (o5 o6 : Option Sl) (r : Int) (o8 : Option Sl) (l : List Int), ρ = [some (.v (.fz (ns.map .int))), some (.v (.int c)), some (.v (.int e)), some (.c 0), some (.v (.int sd)), o5, o6, some (.v (.int r)), o8] ∧ μ = [some (.lst (l.map .int))] ∧ l.length = n + i ∧ ∀ x ∈ l, 0 ≤ x)
    ⟨sd, o5, o6, r, o8, l, rfl, rfl, hl, hp⟩ (fun i d ρ μ hd ⟨sd, o5, o6, r, o8, l, e1, e2, hl, hp⟩ => by
      obtain ⟨hi, rfl⟩ := rangeD_get hd
      subst e1 e2
      have hlim : l.length < lim := by omega
      refine ⟨_, _, _, _, rfl, ?_, sd, o5, o6, r.fdiv 1000003, some (.v (.int (0 + (i : Nat)))), l ++ [r.fmod 1000003], rfl, rfl, ?_, ?_⟩
      · simp [b_deck_1, bind_ok, bind_exc, st_ok, st_exc, seq_nx, seq_rt, seq_bk, seq_ct, seq_exc, turn_nx, turn_ct, turn_bk, turn_rt, turn_exc, mk_true, mk_false, runS_rt, runS_nx, runS_exc, forL_nil, get_off, get_off0, set_off, set_off0, take_len,  sSeq, sIf, sSkip, sRet, sDrop, sAsg, sFor, sGhost, tFreeze, fTest, fBin, fUn, fCall, fCons, fNil, fVar, fC, fAnd, fOr, fNot, fIf, fLst, fTup, fChain, fAndV, fOrV, gNot, allV, g1, g2, gc1, gc2, Sl.get, okV, gNm, gUnp, gUnpL, gsNil, gsCons,  fSeq, fRng1, fRng2, fEnum, fComp, fYes, CT.put, setAll, wipeE, fMeth, isLst, lstAt, appendG, extendG, popG, popAtG, reverseG, countG, fNo, fPart, fSl, slF, revF, addF, subF, mulF, fdivF, modF, powF, ordF, negF, isNonF, isF, absF, max2F, min2F, int1F, lenF, listF, tupleF, sumF, maxF, minF, ixF,  gSubF, setL, sPar, sAug, runC, lift, pureOf, getAll, allVB, D.nol, D.nolL, startE, isiF, tyName, clsL, clsNm, isiB, eqF_int, neF_int, eqF_ints, neF_ints, eqF_intsT, neF_intsT, hlim]
      · simp; omega
      · intro x hx
        rcases List.mem_append.mp hx with hx | hx
        · exact hp x hx
        · rw [List.mem_singleton.mp hx]; exact Int.fmod_nonneg_of_pos _ (by decide))
  rw [rangeD_len] at h
  exact ⟨ρ', μ', e1, sd', p5, p6, some (.v (.int r')), p8, l', h⟩
theorem deck_2 (ns : List Int) (c e n : Nat) (hn : n + e ≤ lim) {sd : Int} {o5 o6 : Option Sl} {o8 o7 : Option Sl} {l : List Int} (hl : l.length = n) (hp : ∀ x ∈ l, 0 ≤ x) :
    ∃ ρ' μ', sForL (gNm 8) b_deck_2 (rangeD 0 e) [some (.v (.fz (ns.map .int))), some (.v (.int c)), some (.v (.int e)), some (.c 0), some (.v (.int sd)), o5, o6, o7, o8] [some (.lst (l.map .int))] = .go .nx ρ' μ' ∧ dkI ns c e (n + e) ρ' μ' := by
  obtain ⟨ρ', μ', e1, h⟩ := forL_inv (tg := gNm 8) (body := b_deck_2) (ds := rangeD 0 e) (fun i => dkI ns c e (n + i))
    ⟨sd, o5, o6, o7, o8, l, rfl, rfl, hl, hp⟩ (fun i d ρ μ hd ⟨sd, o5, o6, o7, o8, l, e1, e2, hl, hp⟩ => by
      obtain ⟨hi, rfl⟩ := rangeD_get hd
      subst e1 e2
      have hlim : l.length < lim := by omega
      have m1 : mulOk sd 69621 = true := mulOk_r _ _ (by decide)
      refine ⟨_, _, _, _, rfl, ?_, (sd * 69621 + (0 + (i : Nat)) + 1).fmod 2147483629, o5, o6, o7, some (.v (.int (0 + (i : Nat)))), l ++ [(((sd * 69621 + (0 + (i : Nat)) + 1).fmod 2147483629).fdiv 5).fmod 1000003], rfl, rfl, ?_, ?_⟩
      · simp [b_deck_2, bind_ok, bind_exc, st_ok, st_exc, seq_nx, seq_rt, seq_bk, seq_ct, seq_exc, turn_nx, turn_ct, turn_bk, turn_rt, turn_exc, mk_true, mk_false, runS_rt, runS_nx, runS_exc, forL_nil, get_off, get_off0, set_off, set_off0, take_len,  sSeq, sIf, sSkip, sRet, sDrop, sAsg, sFor, sGhost, tFreeze, fTest, fBin, fUn, fCall, fCons, fNil, fVar, fC, fAnd, fOr, fNot, fIf, fLst, fTup, fChain, fAndV, fOrV, gNot, allV, g1, g2, gc1, gc2, Sl.get, okV, gNm, gUnp, gUnpL, gsNil, gsCons,  fSeq, fRng1, fRng2, fEnum, fComp, fYes, CT.put, setAll, wipeE, fMeth, isLst, lstAt, appendG, extendG, popG, popAtG, reverseG, countG, fNo, fPart, fSl, slF, revF, addF, subF, mulF, fdivF, modF, powF, ordF, negF, isNonF, isF, absF, max2F, min2F, int1F, lenF, listF, tupleF, sumF, maxF, minF, ixF,  gSubF, setL, sPar, sAug, runC, lift, pureOf, getAll, allVB, D.nol, D.nolL, startE, isiF, tyName, clsL, clsNm, isiB, eqF_int, neF_int, eqF_ints, neF_ints, eqF_intsT, neF_intsT, hlim, m1]
      · simp; omega
      · intro x hx
        rcases List.mem_append.mp hx with hx | hx
        · exact hp x hx
        · rw [List.mem_singleton.mp hx]; exact Int.fmod_nonneg_of_pos _ (by decide))
  rw [rangeD_len] at h
  exact ⟨ρ', μ', e1, h⟩
theorem small61 {n : Nat} (h : n ≤ 1000000000) : ((n : Int)).natAbs < 2 ^ 61 := by
  have : (2 : Nat) ^ 61 = 2305843009213693952 := by decide
  omega
theorem atI_map_int (ns : List Int) (k : Nat) (h : k < ns.length) : atI (ns.map D.int) (k : Int) = some (.int (ns[k])) := by
  unfold atI ixN
  rw [if_pos (by omega), if_pos (by rw [List.length_map]; omega)]
  simp [h]
theorem deck_3 (ns : List Int) (hns : ns.length ≤ 100000) (c e n : Nat) (hc : c ≤ 100000) (he : e ≤ 100000) (hn : n + e ≤ lim) {k : Nat} {sd : Int} {o6 o7 o8 : Option Sl} {l : List Int} (hl : l.length = n) (hp : ∀ x ∈ l, 0 ≤ x) :
    ∃ ρ' μ', b_deck_3 [some (.v (.fz (ns.map .int))), some (.v (.int c)), some (.v (.int e)), some (.c 0), some (.v (.int sd)), some (.v (.int k)), o6, o7, o8] [some (.lst (l.map .int))] = .go .nx ρ' μ' ∧ dkI ns c e (n + e) ρ' μ' := by
  have hsz : e < 2305843009213693952 := by omega
  have cell : ∃ x : Int, sIf (fTest (fBin (fVar 5) (fCall (gc1 lenF) (fCons (fVar 0) (fNil))) (g2 ltF))) (sAsg (fBin (fVar 0) (fVar 5) (g2 ixF)) (gNm 6)) (sSkip) [some (.v (.fz (ns.map .int))), some (.v (.int c)), some (.v (.int e)), some (.c 0), some (.v (.int sd)), some (.v (.int k)), some (.v (.int 0)), o7, o8] [some (.lst (l.map .int))] = .go .nx [some (.v (.fz (ns.map .int))), some (.v (.int c)), some (.v (.int e)), some (.c 0), some (.v (.int sd)), some (.v (.int k)), some (.v (.int x)), o7, o8] [some (.lst (l.map .int))] := by
    by_cases h : k < ns.length
    · have h' : (k : Int) < (ns.length : Int) := by omega
      exact ⟨ns[k], by simp [bind_ok, bind_exc, st_ok, st_exc, seq_nx, seq_rt, seq_bk, seq_ct, seq_exc, turn_nx, turn_ct, turn_bk, turn_rt, turn_exc, mk_true, mk_false, runS_rt, runS_nx, runS_exc, forL_nil, get_off, get_off0, set_off, set_off0, take_len,  sSeq, sIf, sSkip, sRet, sDrop, sAsg, sFor, sGhost, tFreeze, fTest, fBin, fUn, fCall, fCons, fNil, fVar, fC, fAnd, fOr, fNot, fIf, fLst, fTup, fChain, fAndV, fOrV, gNot, allV, g1, g2, gc1, gc2, Sl.get, okV, gNm, gUnp, gUnpL, gsNil, gsCons,  fSeq, fRng1, fRng2, fEnum, fComp, fYes, CT.put, setAll, wipeE, fMeth, isLst, lstAt, appendG, extendG, popG, popAtG, reverseG, countG, fNo, fPart, fSl, slF, revF, addF, subF, mulF, fdivF, modF, powF, ordF, negF, isNonF, isF, absF, max2F, min2F, int1F, lenF, listF, tupleF, sumF, maxF, minF, ixF,  gSubF, setL, sPar, sAug, runC, lift, pureOf, getAll, allVB, D.nol, D.nolL, startE, isiF, tyName, clsL, clsNm, isiB, eqF_int, neF_int, eqF_ints, neF_ints, eqF_intsT, neF_intsT, h, atI_map_int ns k h]⟩
    · have h' : ¬ (k : Int) < (ns.length : Int) := by omega
      exact ⟨0, by simp [bind_ok, bind_exc, st_ok, st_exc, seq_nx, seq_rt, seq_bk, seq_ct, seq_exc, turn_nx, turn_ct, turn_bk, turn_rt, turn_exc, mk_true, mk_false, runS_rt, runS_nx, runS_exc, forL_nil, get_off, get_off0, set_off, set_off0, take_len,  sSeq, sIf, sSkip, sRet, sDrop, sAsg, sFor, sGhost, tFreeze, fTest, fBin, fUn, fCall, fCons, fNil, fVar, fC, fAnd, fOr, fNot, fIf, fLst, fTup, fChain, fAndV, fOrV, gNot, allV, g1, g2, gc1, gc2, Sl.get, okV, gNm, gUnp, gUnpL, gsNil, gsCons,  fSeq, fRng1, fRng2, fEnum, fComp, fYes, CT.put, setAll, wipeE, fMeth, isLst, lstAt, appendG, extendG, popG, popAtG, reverseG, countG, fNo, fPart, fSl, slF, revF, addF, subF, mulF, fdivF, modF, powF, ordF, negF, isNonF, isF, absF, max2F, min2F, int1F, lenF, listF, tupleF, sumF, maxF, minF, ixF,  gSubF, setL, sPar, sAug, runC, lift, pureOf, getAll, allVB, D.nol, D.nolL, startE, isiF, tyName, clsL, clsNm, isiB, eqF_int, neF_int, eqF_ints, neF_ints, eqF_intsT, neF_intsT, h]⟩
  obtain ⟨x, cell⟩ := cell
  unfold b_deck_3
  by_cases hx : (1000000000000000000000000000000 : Int) ≤ (if x < 0 then -x else x)
  · obtain ⟨ρ', μ', e1, h⟩ := deck_1 ns c e n hn (sd := sd) (o5 := some (.v (.int k))) (o6 := some (.v (.int x))) (o8 := o8) (r := if x < 0 then -x else x) hl hp
    refine ⟨ρ', μ', ?_, h⟩
    rw [← e1]
    rw [show ∀ f ρ μ, sSeq (sAsg (fC (.int 0)) (gNm 6)) f ρ μ = f (ρ.set 6 (some (.v (.int 0)))) μ from fun _ _ _ => rfl]
    rw [show ∀ f g ρ μ, sSeq f g ρ μ = (f ρ μ).seq g from fun _ _ _ _ => rfl]
    simp only [List.set_cons_succ, List.set_cons_zero]
    rw [cell]
    simp [bind_ok, bind_exc, st_ok, st_exc, seq_nx, seq_rt, seq_bk, seq_ct, seq_exc, turn_nx, turn_ct, turn_bk, turn_rt, turn_exc, mk_true, mk_false, runS_rt, runS_nx, runS_exc, forL_nil, get_off, get_off0, set_off, set_off0, take_len,  sSeq, sIf, sSkip, sRet, sDrop, sAsg, sFor, sGhost, tFreeze, fTest, fBin, fUn, fCall, fCons, fNil, fVar, fC, fAnd, fOr, fNot, fIf, fLst, fTup, fChain, fAndV, fOrV, gNot, allV, g1, g2, gc1, gc2, Sl.get, okV, gNm, gUnp, gUnpL, gsNil, gsCons,  fSeq, fRng1, fRng2, fEnum, fComp, fYes, CT.put, setAll, wipeE, fMeth, isLst, lstAt, appendG, extendG, popG, popAtG, reverseG, countG, fNo, fPart, fSl, slF, revF, addF, subF, mulF, fdivF, modF, powF, ordF, negF, isNonF, isF, absF, max2F, min2F, int1F, lenF, listF, tupleF, sumF, maxF, minF, ixF,  gSubF, setL, sPar, sAug, runC, lift, pureOf, getAll, allVB, D.nol, D.nolL, startE, isiF, tyName, clsL, clsNm, isiB, eqF_int, neF_int, eqF_ints, neF_ints, eqF_intsT, neF_intsT, hx, hsz]
  · have m1 : mulOk sd 48271 = true := mulOk_r _ _ (by decide)
    have m2 : mulOk 2 (if x < 0 then -x else x) = true := mulOk_l _ _ (by decide)
    obtain ⟨ρ', μ', e1, h⟩ := deck_2 ns c e n hn (sd := (sd * 48271 + 2 * (if x < 0 then -x else x) + (if decide (x < 0) = true then 1 else 0) + k).fmod 2147483647) (o5 := some (.v (.int k))) (o6 := some (.v (.int x))) (o7 := some (.v (.int (if x < 0 then -x else x)))) (o8 := o8) hl hp
    refine ⟨ρ', μ', ?_, h⟩
    rw [← e1]
    rw [show ∀ f ρ μ, sSeq (sAsg (fC (.int 0)) (gNm 6)) f ρ μ = f (ρ.set 6 (some (.v (.int 0)))) μ from fun _ _ _ => rfl]
    rw [show ∀ f g ρ μ, sSeq f g ρ μ = (f ρ μ).seq g from fun _ _ _ _ => rfl]
    simp only [List.set_cons_succ, List.set_cons_zero]
    rw [cell]
    simp [bind_ok, bind_exc, st_ok, st_exc, seq_nx, seq_rt, seq_bk, seq_ct, seq_exc, turn_nx, turn_ct, turn_bk, turn_rt, turn_exc, mk_true, mk_false, runS_rt, runS_nx, runS_exc, forL_nil, get_off, get_off0, set_off, set_off0, take_len,  sSeq, sIf, sSkip, sRet, sDrop, sAsg, sFor, sGhost, tFreeze, fTest, fBin, fUn, fCall, fCons, fNil, fVar, fC, fAnd, fOr, fNot, fIf, fLst, fTup, fChain, fAndV, fOrV, gNot, allV, g1, g2, gc1, gc2, Sl.get, okV, gNm, gUnp, gUnpL, gsNil, gsCons,  fSeq, fRng1, fRng2, fEnum, fComp, fYes, CT.put, setAll, wipeE, fMeth, isLst, lstAt, appendG, extendG, popG, popAtG, reverseG, countG, fNo, fPart, fSl, slF, revF, addF, subF, mulF, fdivF, modF, powF, ordF, negF, isNonF, isF, absF, max2F, min2F, int1F, lenF, listF, tupleF, sumF, maxF, minF, ixF,  gSubF, setL, sPar, sAug, runC, lift, pureOf, getAll, allVB, D.nol, D.nolL, startE, isiF, tyName, clsL, clsNm, isiB, eqF_int, neF_int, eqF_ints, neF_ints, eqF_intsT, neF_intsT, hx, hsz, m1, m2]
/-- a deck: some integers, none below 0 -/
theorem deck_eq (ns : List Int) (hns : ns.length ≤ 100000) (c e : Nat) (hc : c ≤ 100000) (he : e ≤ 100000) (hce : c * e ≤ lim) :
    ∃ deck : List Int, m_deck [.v (.fz (ns.map .int)), .v (.int c), .v (.int e)] [] = .ok (.c 0) [some (.lst (deck.map .int))] ∧ deck.length = c * e ∧ ∀ x ∈ deck, 0 ≤ x := by
  have hsz : c < 2305843009213693952 := by omega
  obtain ⟨ρ', μ', e1, sd, o5, o6, o7, o8, l, hρ, hμ, hl, hp⟩ := forL_inv (tg := gNm 5) (body := b_deck_3) (ds := rangeD 0 c) (ρ := [some (.v (.fz (ns.map .int))), some (.v (.int c)), some (.v (.int e)), some (.c 0), some (.v (.int (7 + ns.length))), none, none, none, none]) (μ := [some (.lst [])]) (fun i => dkI ns c e (i * e))
    ⟨_, none, none, none, none, [], rfl, rfl, by simp, by simp⟩ (fun i d ρ μ hd ⟨sd, o5, o6, o7, o8, l, e1, e2, hl, hp⟩ => by
      obtain ⟨hi, rfl⟩ := rangeD_get hd
      subst e1 e2
      have hle : (i + 1) * e ≤ c * e := Nat.mul_le_mul_right e hi
      have hmul : (i + 1) * e = i * e + e := by rw [Nat.add_mul, Nat.one_mul]
      obtain ⟨ρ2, μ2, e3, h⟩ := deck_3 ns hns c e (i * e) hc he (by omega) (k := i) (sd := sd) (o6 := o6) (o7 := o7) (o8 := o8) hl hp
      refine ⟨_, _, ρ2, μ2, rfl, ?_, by rw [hmul]; exact h⟩
      rw [← e3, Int.zero_add]
      rfl)
  refine ⟨l.reverse, ?_, by rw [rangeD_len] at hl; simpa using hl, fun x hx => hp x (List.mem_reverse.mp hx)⟩
  subst hρ hμ
  simp only [m_deck, b_deck]
  have e0 : rangeD 0 ((c : Int).toNat) = rangeD 0 c := by rw [Int.toNat_natCast]
  simp [bind_ok, bind_exc, st_ok, st_exc, seq_nx, seq_rt, seq_bk, seq_ct, seq_exc, turn_nx, turn_ct, turn_bk, turn_rt, turn_exc, mk_true, mk_false, runS_rt, runS_nx, runS_exc, forL_nil, get_off, get_off0, set_off, set_off0, take_len,  sSeq, sIf, sSkip, sRet, sDrop, sAsg, sFor, sGhost, tFreeze, fTest, fBin, fUn, fCall, fCons, fNil, fVar, fC, fAnd, fOr, fNot, fIf, fLst, fTup, fChain, fAndV, fOrV, gNot, allV, g1, g2, gc1, gc2, Sl.get, okV, gNm, gUnp, gUnpL, gsNil, gsCons,  fSeq, fRng1, fRng2, fEnum, fComp, fYes, CT.put, setAll, wipeE, fMeth, isLst, lstAt, appendG, extendG, popG, popAtG, reverseG, countG, fNo, fPart, fSl, slF, revF, addF, subF, mulF, fdivF, modF, powF, ordF, negF, isNonF, isF, absF, max2F, min2F, int1F, lenF, listF, tupleF, sumF, maxF, minF, ixF,  gSubF, setL, sPar, sAug, runC, lift, pureOf, getAll, allVB, D.nol, D.nolL, startE, isiF, tyName, clsL, clsNm, isiB, eqF_int, neF_int, eqF_ints, neF_ints, eqF_intsT, neF_intsT, hsz, e0] at e1 ⊢
  rw [e1]
  simp [bind_ok, bind_exc, st_ok, st_exc, seq_nx, seq_rt, seq_bk, seq_ct, seq_exc, turn_nx, turn_ct, turn_bk, turn_rt, turn_exc, mk_true, mk_false, runS_rt, runS_nx, runS_exc, forL_nil, get_off, get_off0, set_off, set_off0, take_len,  sSeq, sIf, sSkip, sRet, sDrop, sAsg, sFor, sGhost, tFreeze, fTest, fBin, fUn, fCall, fCons, fNil, fVar, fC, fAnd, fOr, fNot, fIf, fLst, fTup, fChain, fAndV, fOrV, gNot, allV, g1, g2, gc1, gc2, Sl.get, okV, gNm, gUnp, gUnpL, gsNil, gsCons,  fSeq, fRng1, fRng2, fEnum, fComp, fYes, CT.put, setAll, wipeE, fMeth, isLst, lstAt, appendG, extendG, popG, popAtG, reverseG, countG, fNo, fPart, fSl, slF, revF, addF, subF, mulF, fdivF, modF, powF, ordF, negF, isNonF, isF, absF, max2F, min2F, int1F, lenF, listF, tupleF, sumF, maxF, minF, ixF,  gSubF, setL, sPar, sAug, runC, lift, pureOf, getAll, allVB, D.nol, D.nolL, startE, isiF, tyName, clsL, clsNm, isiB, eqF_int, neF_int, eqF_ints, neF_ints, eqF_intsT, neF_intsT, List.map_reverse]
end DL

namespace DL
open PySem PySem.Spec PyProof.Rows L2
/-! ### comprehensions -/
theorem cloop_eq {t : CT} {ft : FT} {fe : FE} {ρ : Env} {μ : Store} (p : D → Bool) (f : D → D) : ∀ (ds acc : List D), acc.length + ds.length ≤ lim →
    (∀ d ∈ ds, ∃ ρ1, t.put d ρ = some ρ1 ∧ ft ρ1 μ = .ok (p d) μ ∧ (p d = true → fe ρ1 μ = .ok (.v (f d)) μ)) → cLoop t ft fe ρ ds μ acc = .ok (acc ++ (ds.filter p).map f) μ
  | [], acc, _, _ => by simp [cLoop]
  | d :: ds, acc, hl, h => by
    rw [List.length_cons] at hl
    obtain ⟨ρ1, e1, e2, e3⟩ := h d List.mem_cons_self
    have hr := fun x m => h x (List.mem_cons_of_mem d m)
    unfold cLoop
    rw [e1]
    cases q : p d with
    | true =>
      simp only [e2, q, e3 q]
      rw [if_pos (show acc.length < lim by omega), cloop_eq p f ds (acc ++ [f d]) (by rw [List.length_append, List.length_singleton]; omega) hr]
      simp [List.filter_cons, q]
    | false =>
      simp only [e2, q]
      rw [cloop_eq p f ds acc (by omega) hr]
      simp [List.filter_cons, q]
theorem cloop_map {t : CT} {fe : FE} {ρ : Env} {μ : Store} (f : D → D) (ds : List D) (hl : ds.length ≤ lim) (h : ∀ d ∈ ds, ∃ ρ1, t.put d ρ = some ρ1 ∧ fe ρ1 μ = .ok (.v (f d)) μ) : cLoop t fYes fe ρ ds μ [] = .ok (ds.map f) μ := by
  rw [cloop_eq (fun _ => true) f ds [] (by simpa using hl) fun d m => by
    obtain ⟨ρ1, e1, e2⟩ := h d m
    exact ⟨ρ1, e1, rfl, fun _ => e2⟩]
  rw [List.filter_eq_self.mpr fun _ _ => rfl]
  rfl

/-! ### _law_plain: 0 value 1 item -/
def b_plain (rec : List Sl → Store → Out Sl) : FS := sSeq (sIf (fTest (fCall (gc2 isiF) (fCons (fVar 0) (fCons (fTup (fCons (fC (.ty "tuple")) (fCons (fC (.ty "list")) (fNil)))) (fNil))))) (sRet (fBin (fLst false (fCons (fCall (gc2 isiF) (fCons (fVar 0) (fCons (fC (.ty "list")) (fNil)))) (fNil))) (fComp false (([("item", 1)] : List (Str × Nat)).map (·.2)) (fSeq (fVar 0)) (CT.nm 1) (fYes) (fCall (rec) (fCons (fVar 1) (fNil)))) (g2 (addF false)))) (sSkip)) (sSeq (sIf (fOr (fTest (fUn (fVar 0) (isNonF false))) (fTest (fCall (gc2 isiF) (fCons (fVar 0) (fCons (fC (.ty "bool")) (fNil)))))) (sRet (fBin (fLst false (fCons (fC (.str "None")) (fCons (fC (.str "False")) (fCons (fC (.str "True")) (fNil))))) (fBin (fCall (gc1 int1F) (fCons (fUn (fVar 0) (isNonF true)) (fNil))) (fCall (gc1 int1F) (fCons (fBin (fVar 0) (fC (.bl true)) (g2 (isF false))) (fNil))) (g2 (addF false))) (g2 ixF))) (sSkip)) (sSeq (sIf (fTest (fCall (gc2 isiF) (fCons (fVar 0) (fCons (fTup (fCons (fC (.ty "int")) (fCons (fC (.ty "str")) (fNil)))) (fNil))))) (sRet (fLst false (fCons (fCall (gc2 isiF) (fCons (fVar 0) (fCons (fC (.ty "str")) (fNil)))) (fCons (fVar 0) (fNil))))) (sSkip)) (sRet (fC (.str "another")))))
def m_plain : Nat → List Sl → Store → Out Sl
  | 0 => lift fun _ => .stuck
  | k + 1 => lift (pureOf 2 (b_plain (m_plain k)))
mutual
/-- what it tells -/
def plainD : D → D
  | .non => .str "None"
  | .bl b => .str (if b then "True" else "False")
  | .int i => .lst [.bl false, .int i]
  | .str x => .lst [.bl true, .str x]
  | .lst ds => .lst (.bl true :: plainL ds)
  | .tup ds => .lst (.bl false :: plainL ds)
  | _ => .str "another"
def plainL : List D → List D
  | [] => []
  | d :: ds => plainD d :: plainL ds
end
theorem plainL_eq : ∀ ds, plainL ds = ds.map plainD
  | [] => rfl
  | d :: ds => by rw [plainL, plainL_eq ds]; rfl
/-- plain data of depth n at most -/
inductive Pl : Nat → D → Prop
  | non {n} : Pl n .non
  | bl {n} (b : Bool) : Pl n (.bl b)
  | int {n} (i : Int) : Pl n (.int i)
  | str {n} {x : Str} (h : PyData.canLay0 (.str x) = true) : Pl n (.str x)
  | lst {n} {ds : List D} (h : ∀ d ∈ ds, Pl n d) (hl : ds.length < lim) : Pl (n + 1) (.lst ds)
  | tup {n} {ds : List D} (h : ∀ d ∈ ds, Pl n d) (hl : ds.length < lim) : Pl (n + 1) (.tup ds)
theorem lay_None : PyData.canLay0 (.str "None") = true := by decide +kernel
theorem lay_True : PyData.canLay0 (.str "True") = true := by decide +kernel
theorem lay_False : PyData.canLay0 (.str "False") = true := by decide +kernel
theorem Pl.shp {n : Nat} {d : D} (h : Pl n d) : shp n d := by
  induction h with
  | non => exact shp_non _
  | bl b => exact shp_bl _ _
  | int i => exact shp_int _ _
  | str h => exact shp_str h _
  | lst h hl ih => exact shp_lst ih
  | tup h hl ih => exact shp_tup ih
theorem Pl.plain {n : Nat} {d : D} (h : Pl n d) : DL.shp (n + 1) (plainD d) := by
  induction h with
  | non => exact shp_str lay_None _
  | bl b =>
    unfold plainD
    cases b with
    | true => exact shp_str lay_True _
    | false => exact shp_str lay_False _
  | @int n i =>
    unfold plainD
    exact shp_lst fun d m => by
      simp only [List.mem_cons, List.not_mem_nil, or_false] at m
      rcases m with rfl | rfl
      · exact shp_bl _ _
      · exact shp_int _ _
  | @str n x h =>
    unfold plainD
    exact shp_lst fun d m => by
      simp only [List.mem_cons, List.not_mem_nil, or_false] at m
      rcases m with rfl | rfl
      · exact shp_bl _ _
      · exact shp_str h _
  | @lst n ds h hl ih =>
    unfold plainD
    refine shp_lst fun d m => ?_
    rcases List.mem_cons.mp m with rfl | m
    · exact shp_bl _ _
    · rw [plainL_eq] at m
      obtain ⟨x, hx, rfl⟩ := List.mem_map.mp m
      exact ih x hx
  | @tup n ds h hl ih =>
    unfold plainD
    refine shp_lst fun d m => ?_
    rcases List.mem_cons.mp m with rfl | m
    · exact shp_bl _ _
    · rw [plainL_eq] at m
      obtain ⟨x, hx, rfl⟩ := List.mem_map.mp m
      exact ih x hx
theorem plain_eq {n : Nat} {d : D} (h : Pl n d) : ∀ k, n < k → ∀ μ : Store, m_plain k [.v d] μ = .ok (.v (plainD d)) μ := by
  induction h with
  | non => intro k hk μ; obtain ⟨k, rfl⟩ : ∃ j, k = j + 1 := ⟨k - 1, by omega⟩; simp [m_plain, b_plain, bind_ok, bind_exc, st_ok, st_exc, seq_nx, seq_rt, seq_bk, seq_ct, seq_exc, turn_nx, turn_ct, turn_bk, turn_rt, turn_exc, mk_true, mk_false, runS_rt, runS_nx, runS_exc, forL_nil, get_off, get_off0, set_off, set_off0, take_len,  sSeq, sIf, sSkip, sRet, sDrop, sAsg, sFor, sGhost, tFreeze, fTest, fBin, fUn, fCall, fCons, fNil, fVar, fC, fAnd, fOr, fNot, fIf, fLst, fTup, fChain, fAndV, fOrV, gNot, allV, g1, g2, gc1, gc2, Sl.get, okV, gNm, gUnp, gUnpL, gsNil, gsCons,  fSeq, fRng1, fRng2, fEnum, fComp, fYes, CT.put, setAll, wipeE, fMeth, isLst, lstAt, appendG, extendG, popG, popAtG, reverseG, countG, fNo, fPart, fSl, slF, revF, addF, subF, mulF, fdivF, modF, powF, ordF, negF, isNonF, isF, absF, max2F, min2F, int1F, lenF, listF, tupleF, sumF, maxF, minF, ixF,  gSubF, setL, sPar, sAug, runC, lift, pureOf, getAll, allVB, D.nol, D.nolL, startE, isiF, tyName, clsL, clsNm, isiB, eqF_int, neF_int, eqF_ints, neF_ints, eqF_intsT, neF_intsT, plainD]; rfl
  | bl b => intro k hk μ; obtain ⟨k, rfl⟩ : ∃ j, k = j + 1 := ⟨k - 1, by omega⟩; cases b <;> simp [m_plain, b_plain, bind_ok, bind_exc, st_ok, st_exc, seq_nx, seq_rt, seq_bk, seq_ct, seq_exc, turn_nx, turn_ct, turn_bk, turn_rt, turn_exc, mk_true, mk_false, runS_rt, runS_nx, runS_exc, forL_nil, get_off, get_off0, set_off, set_off0, take_len,  sSeq, sIf, sSkip, sRet, sDrop, sAsg, sFor, sGhost, tFreeze, fTest, fBin, fUn, fCall, fCons, fNil, fVar, fC, fAnd, fOr, fNot, fIf, fLst, fTup, fChain, fAndV, fOrV, gNot, allV, g1, g2, gc1, gc2, Sl.get, okV, gNm, gUnp, gUnpL, gsNil, gsCons,  fSeq, fRng1, fRng2, fEnum, fComp, fYes, CT.put, setAll, wipeE, fMeth, isLst, lstAt, appendG, extendG, popG, popAtG, reverseG, countG, fNo, fPart, fSl, slF, revF, addF, subF, mulF, fdivF, modF, powF, ordF, negF, isNonF, isF, absF, max2F, min2F, int1F, lenF, listF, tupleF, sumF, maxF, minF, ixF,  gSubF, setL, sPar, sAug, runC, lift, pureOf, getAll, allVB, D.nol, D.nolL, startE, isiF, tyName, clsL, clsNm, isiB, eqF_int, neF_int, eqF_ints, neF_ints, eqF_intsT, neF_intsT, plainD] <;> rfl
  | int i => intro k hk μ; obtain ⟨k, rfl⟩ : ∃ j, k = j + 1 := ⟨k - 1, by omega⟩; simp [m_plain, b_plain, bind_ok, bind_exc, st_ok, st_exc, seq_nx, seq_rt, seq_bk, seq_ct, seq_exc, turn_nx, turn_ct, turn_bk, turn_rt, turn_exc, mk_true, mk_false, runS_rt, runS_nx, runS_exc, forL_nil, get_off, get_off0, set_off, set_off0, take_len,  sSeq, sIf, sSkip, sRet, sDrop, sAsg, sFor, sGhost, tFreeze, fTest, fBin, fUn, fCall, fCons, fNil, fVar, fC, fAnd, fOr, fNot, fIf, fLst, fTup, fChain, fAndV, fOrV, gNot, allV, g1, g2, gc1, gc2, Sl.get, okV, gNm, gUnp, gUnpL, gsNil, gsCons,  fSeq, fRng1, fRng2, fEnum, fComp, fYes, CT.put, setAll, wipeE, fMeth, isLst, lstAt, appendG, extendG, popG, popAtG, reverseG, countG, fNo, fPart, fSl, slF, revF, addF, subF, mulF, fdivF, modF, powF, ordF, negF, isNonF, isF, absF, max2F, min2F, int1F, lenF, listF, tupleF, sumF, maxF, minF, ixF,  gSubF, setL, sPar, sAug, runC, lift, pureOf, getAll, allVB, D.nol, D.nolL, startE, isiF, tyName, clsL, clsNm, isiB, eqF_int, neF_int, eqF_ints, neF_ints, eqF_intsT, neF_intsT, plainD]
  | str h => intro k hk μ; obtain ⟨k, rfl⟩ : ∃ j, k = j + 1 := ⟨k - 1, by omega⟩; simp [m_plain, b_plain, bind_ok, bind_exc, st_ok, st_exc, seq_nx, seq_rt, seq_bk, seq_ct, seq_exc, turn_nx, turn_ct, turn_bk, turn_rt, turn_exc, mk_true, mk_false, runS_rt, runS_nx, runS_exc, forL_nil, get_off, get_off0, set_off, set_off0, take_len,  sSeq, sIf, sSkip, sRet, sDrop, sAsg, sFor, sGhost, tFreeze, fTest, fBin, fUn, fCall, fCons, fNil, fVar, fC, fAnd, fOr, fNot, fIf, fLst, fTup, fChain, fAndV, fOrV, gNot, allV, g1, g2, gc1, gc2, Sl.get, okV, gNm, gUnp, gUnpL, gsNil, gsCons,  fSeq, fRng1, fRng2, fEnum, fComp, fYes, CT.put, setAll, wipeE, fMeth, isLst, lstAt, appendG, extendG, popG, popAtG, reverseG, countG, fNo, fPart, fSl, slF, revF, addF, subF, mulF, fdivF, modF, powF, ordF, negF, isNonF, isF, absF, max2F, min2F, int1F, lenF, listF, tupleF, sumF, maxF, minF, ixF,  gSubF, setL, sPar, sAug, runC, lift, pureOf, getAll, allVB, D.nol, D.nolL, startE, isiF, tyName, clsL, clsNm, isiB, eqF_int, neF_int, eqF_ints, neF_ints, eqF_intsT, neF_intsT, plainD]
  | @lst n ds h hl ih =>
    intro k hk μ; obtain ⟨k, rfl⟩ : ∃ j, k = j + 1 := ⟨k - 1, by omega⟩
    have c := cloop_map (t := .nm 1) (fe := fCall (m_plain k) (fCons (fVar 1) fNil)) (ρ := [some (.v (.lst ds)), none]) (μ := []) plainD ds (by omega) fun d m => ⟨_, rfl, by
      have := ih d m k (by omega) []
      simp [bind_ok, bind_exc, st_ok, st_exc, seq_nx, seq_rt, seq_bk, seq_ct, seq_exc, turn_nx, turn_ct, turn_bk, turn_rt, turn_exc, mk_true, mk_false, runS_rt, runS_nx, runS_exc, forL_nil, get_off, get_off0, set_off, set_off0, take_len,  sSeq, sIf, sSkip, sRet, sDrop, sAsg, sFor, sGhost, tFreeze, fTest, fBin, fUn, fCall, fCons, fNil, fVar, fC, fAnd, fOr, fNot, fIf, fLst, fTup, fChain, fAndV, fOrV, gNot, allV, g1, g2, gc1, gc2, Sl.get, okV, gNm, gUnp, gUnpL, gsNil, gsCons,  fSeq, fRng1, fRng2, fEnum, fComp, fYes, CT.put, setAll, wipeE, fMeth, isLst, lstAt, appendG, extendG, popG, popAtG, reverseG, countG, fNo, fPart, fSl, slF, revF, addF, subF, mulF, fdivF, modF, powF, ordF, negF, isNonF, isF, absF, max2F, min2F, int1F, lenF, listF, tupleF, sumF, maxF, minF, ixF,  gSubF, setL, sPar, sAug, runC, lift, pureOf, getAll, allVB, D.nol, D.nolL, startE, isiF, tyName, clsL, clsNm, isiB, eqF_int, neF_int, eqF_ints, neF_ints, eqF_intsT, neF_intsT, this]⟩
    have hl' : 1 + ds.length ≤ lim := by omega
    simp [m_plain, b_plain, bind_ok, bind_exc, st_ok, st_exc, seq_nx, seq_rt, seq_bk, seq_ct, seq_exc, turn_nx, turn_ct, turn_bk, turn_rt, turn_exc, mk_true, mk_false, runS_rt, runS_nx, runS_exc, forL_nil, get_off, get_off0, set_off, set_off0, take_len,  sSeq, sIf, sSkip, sRet, sDrop, sAsg, sFor, sGhost, tFreeze, fTest, fBin, fUn, fCall, fCons, fNil, fVar, fC, fAnd, fOr, fNot, fIf, fLst, fTup, fChain, fAndV, fOrV, gNot, allV, g1, g2, gc1, gc2, Sl.get, okV, gNm, gUnp, gUnpL, gsNil, gsCons,  fSeq, fRng1, fRng2, fEnum, fComp, fYes, CT.put, setAll, wipeE, fMeth, isLst, lstAt, appendG, extendG, popG, popAtG, reverseG, countG, fNo, fPart, fSl, slF, revF, addF, subF, mulF, fdivF, modF, powF, ordF, negF, isNonF, isF, absF, max2F, min2F, int1F, lenF, listF, tupleF, sumF, maxF, minF, ixF,  gSubF, setL, sPar, sAug, runC, lift, pureOf, getAll, allVB, D.nol, D.nolL, startE, isiF, tyName, clsL, clsNm, isiB, eqF_int, neF_int, eqF_ints, neF_ints, eqF_intsT, neF_intsT, plainD, plainL_eq, c, hl']
  | @tup n ds h hl ih =>
    intro k hk μ; obtain ⟨k, rfl⟩ : ∃ j, k = j + 1 := ⟨k - 1, by omega⟩
    have c := cloop_map (t := .nm 1) (fe := fCall (m_plain k) (fCons (fVar 1) fNil)) (ρ := [some (.v (.tup ds)), none]) (μ := []) plainD ds (by omega) fun d m => ⟨_, rfl, by
      have := ih d m k (by omega) []
      simp [bind_ok, bind_exc, st_ok, st_exc, seq_nx, seq_rt, seq_bk, seq_ct, seq_exc, turn_nx, turn_ct, turn_bk, turn_rt, turn_exc, mk_true, mk_false, runS_rt, runS_nx, runS_exc, forL_nil, get_off, get_off0, set_off, set_off0, take_len,  sSeq, sIf, sSkip, sRet, sDrop, sAsg, sFor, sGhost, tFreeze, fTest, fBin, fUn, fCall, fCons, fNil, fVar, fC, fAnd, fOr, fNot, fIf, fLst, fTup, fChain, fAndV, fOrV, gNot, allV, g1, g2, gc1, gc2, Sl.get, okV, gNm, gUnp, gUnpL, gsNil, gsCons,  fSeq, fRng1, fRng2, fEnum, fComp, fYes, CT.put, setAll, wipeE, fMeth, isLst, lstAt, appendG, extendG, popG, popAtG, reverseG, countG, fNo, fPart, fSl, slF, revF, addF, subF, mulF, fdivF, modF, powF, ordF, negF, isNonF, isF, absF, max2F, min2F, int1F, lenF, listF, tupleF, sumF, maxF, minF, ixF,  gSubF, setL, sPar, sAug, runC, lift, pureOf, getAll, allVB, D.nol, D.nolL, startE, isiF, tyName, clsL, clsNm, isiB, eqF_int, neF_int, eqF_ints, neF_ints, eqF_intsT, neF_intsT, this]⟩
    have hl' : 1 + ds.length ≤ lim := by omega
    simp [m_plain, b_plain, bind_ok, bind_exc, st_ok, st_exc, seq_nx, seq_rt, seq_bk, seq_ct, seq_exc, turn_nx, turn_ct, turn_bk, turn_rt, turn_exc, mk_true, mk_false, runS_rt, runS_nx, runS_exc, forL_nil, get_off, get_off0, set_off, set_off0, take_len,  sSeq, sIf, sSkip, sRet, sDrop, sAsg, sFor, sGhost, tFreeze, fTest, fBin, fUn, fCall, fCons, fNil, fVar, fC, fAnd, fOr, fNot, fIf, fLst, fTup, fChain, fAndV, fOrV, gNot, allV, g1, g2, gc1, gc2, Sl.get, okV, gNm, gUnp, gUnpL, gsNil, gsCons,  fSeq, fRng1, fRng2, fEnum, fComp, fYes, CT.put, setAll, wipeE, fMeth, isLst, lstAt, appendG, extendG, popG, popAtG, reverseG, countG, fNo, fPart, fSl, slF, revF, addF, subF, mulF, fdivF, modF, powF, ordF, negF, isNonF, isF, absF, max2F, min2F, int1F, lenF, listF, tupleF, sumF, maxF, minF, ixF,  gSubF, setL, sPar, sAug, runC, lift, pureOf, getAll, allVB, D.nol, D.nolL, startE, isiF, tyName, clsL, clsNm, isiB, eqF_int, neF_int, eqF_ints, neF_ints, eqF_intsT, neF_intsT, plainD, plainL_eq, c, hl']
/-! ### slices -/
theorem cut_lo {xs : List D} {i : Int} {k : Nat} (h : i = k) : cutD xs (some i) none = xs.drop k := by
  subst h
  unfold cutD
  rw [HT.sIx_nat, HT.sIx_none]
  by_cases hk : k ≤ xs.length
  · rw [Nat.min_eq_left hk, List.take_of_length_le (by rw [List.length_drop]; omega)]
  · rw [Nat.min_eq_right (by omega), List.drop_of_length_le (by omega), List.drop_of_length_le (i := k) (by omega)]
    simp
theorem cut_hi {xs : List D} {i : Int} {k : Nat} (h : i = k) : cutD xs none (some i) = xs.take k := by
  subst h
  unfold cutD
  rw [HT.sIx_nat, HT.sIx_none, List.drop_zero, Nat.sub_zero]
  by_cases hk : k ≤ xs.length
  · rw [Nat.min_eq_left hk]
  · rw [Nat.min_eq_right (by omega), List.take_of_length_le (Nat.le_refl _), List.take_of_length_le (by omega)]
theorem cut_lh {xs : List D} {i j : Int} {a b : Nat} (h : i = a) (h2 : j = b) (l : b ≤ xs.length) : cutD xs (some i) (some j) = (xs.drop a).take (b - a) := by
  subst h h2
  unfold cutD
  rw [HT.sIx_nat, HT.sIx_nat, Nat.min_eq_left l]
  by_cases hk : a ≤ xs.length
  · rw [Nat.min_eq_left hk]
  · rw [Nat.min_eq_right (by omega), List.drop_of_length_le (Nat.le_refl _), List.drop_of_length_le (i := a) (by omega)]
    simp
theorem cut_no {xs : List D} : cutD xs none none = xs := by
  unfold cutD
  rw [HT.sIx_none, HT.sIx_none, List.drop_zero, Nat.sub_zero, List.take_of_length_le (Nat.le_refl _)]
theorem lay_str {x : Str} (h : PyData.canLay0 (.str x) = true) : PyData.canLay0 (.str x) = true := h
theorem eqF_str {μ : Store} {x y : Str} (hx : PyData.canLay0 (.str x) = true) (hy : PyData.canLay0 (.str y) = true) : eqF (.str x) (.str y) μ = .ok (.v (.bl (x == y))) μ := eqF_of (shp_str hx _) (shp_str hy _) (by simp only [D.py, PyData.eqv])
theorem inD_cons {x d : D} {ds : List D} : inD x (d :: ds) = (PyData.eqv d.py x.py || inD x ds) := rfl
theorem inD_nil {x : D} : inD x [] = false := rfl
end DL

namespace k13
open PySem PySem.Spec PyProof.Rows L2 DL
abbrev pw : Program := PySem.Challenge.pw_tablework_k13_knuth_steps
abbrev top (i : Nat) : Stmt := pw.main.body.getD i (.Pass ⟨0, 0, 0, 0⟩)
abbrev s__law_deck : Stmt := top 10
theorem sc__law_deck : FnScope ["script", "cells", "each", "deck", "seed", "k", "cell", "rest", "at"] ["script", "cells", "each"] (defScope s__law_deck) := ⟨rfl, rfl, rfl, by decide +kernel, rfl, by decide +kernel, by decide +kernel⟩
abbrev s__law_take : Stmt := top 11
theorem sc__law_take : FnScope ["deck", "many"] ["deck", "many"] (defScope s__law_take) := ⟨rfl, rfl, rfl, by decide +kernel, rfl, by decide +kernel, by decide +kernel⟩
abbrev s__law_word : Stmt := top 13
theorem sc__law_word : FnScope ["deck", "most", "at"] ["deck"] (defScope s__law_word) := ⟨rfl, rfl, rfl, by decide +kernel, rfl, by decide +kernel, by decide +kernel⟩
abbrev s_standard_word : Stmt := top 4
theorem sc_standard_word : FnScope ["word", "order", "found", "number", "pair", "at"] ["word"] (defScope s_standard_word) := ⟨rfl, rfl, rfl, by decide +kernel, rfl, by decide +kernel, by decide +kernel⟩
abbrev s__law_plain : Stmt := top 12
theorem sc__law_plain : FnScope ["value", "item"] ["value"] (defScope s__law_plain) := ⟨rfl, rfl, rfl, by decide +kernel, rfl, by decide +kernel, by decide +kernel⟩
abbrev s__law_made : Stmt := top 14
theorem sc__law_made : FnScope ["word", "step", "kind", "place", "a", "b", "c", "low", "high"] ["word", "step"] (defScope s__law_made) := ⟨rfl, rfl, rfl, by decide +kernel, rfl, by decide +kernel, by decide +kernel⟩
abbrev s_stepped : Stmt := top 5
theorem sc_stepped : FnScope ["word", "step", "kind", "place", "one", "two", "three"] ["word", "step"] (defScope s_stepped) := ⟨rfl, rfl, rfl, by decide +kernel, rfl, by decide +kernel, by decide +kernel⟩
abbrev s_knuth_steps : Stmt := top 7
theorem sc_knuth_steps : FnScope ["word", "found", "kind", "place"] ["word"] (defScope s_knuth_steps) := ⟨rfl, rfl, rfl, by decide +kernel, rfl, by decide +kernel, by decide +kernel⟩
abbrev s__law_standard : Stmt := top 16
theorem sc__law_standard : FnScope ["word", "found", "at", "less", "letter"] ["word"] (defScope s__law_standard) := ⟨rfl, rfl, rfl, by decide +kernel, rfl, by decide +kernel, by decide +kernel⟩
abbrev s_judge_steps : Stmt := top 8
theorem sc_judge_steps : FnScope ["word", "steps", "other", "found", "step"] ["word", "steps", "other"] (defScope s_judge_steps) := ⟨rfl, rfl, rfl, by decide +kernel, rfl, by decide +kernel, by decide +kernel⟩
abbrev s_knuth_step : Stmt := top 6
theorem sc_knuth_step : FnScope ["word", "step", "found"] ["word", "step"] (defScope s_knuth_step) := ⟨rfl, rfl, rfl, by decide +kernel, rfl, by decide +kernel, by decide +kernel⟩
abbrev s__law_told : Stmt := top 15
theorem sc__law_told : FnScope ["word", "step", "error"] ["word", "step"] (defScope s__law_told) := ⟨rfl, rfl, rfl, by decide +kernel, rfl, by decide +kernel, by decide +kernel⟩
abbrev s_law : Stmt := top 17
theorem sc_law : FnScope ["script", "deck", "turn", "word", "all_steps", "kind", "place", "made", "passed", "due", "numbers", "steps", "last", "right", "step", "ways", "fitting", "other", "at", "goal", "one"] ["script"] (defScope s_law) := ⟨rfl, rfl, rfl, by decide +kernel, rfl, by decide +kernel, by decide +kernel⟩
abbrev s_InvalidWord : Stmt := inClass (top 2) 0
theorem sc_InvalidWord : FnScope ["self", "what"] ["self", "what"] (defScope s_InvalidWord) := ⟨rfl, rfl, rfl, by decide +kernel, rfl, by decide +kernel, by decide +kernel⟩
structure Fx (K : PySem.W.Frag) (mg : Str → Option Value) (fd__law_deck fd__law_take fd__law_word fd_standard_word fd__law_plain fd__law_made fd_stepped fd_knuth_steps fd__law_standard fd_judge_steps fd_knuth_step fd__law_told fd_law fi_InvalidWord : FuncData) : Prop where
  d__law_deck : FD K mg "_law_deck" (defArgs s__law_deck) (defBody s__law_deck) (defScope s__law_deck) ["script", "cells", "each"] fd__law_deck
  d__law_take : FD K mg "_law_take" (defArgs s__law_take) (defBody s__law_take) (defScope s__law_take) ["deck", "many"] fd__law_take
  d__law_word : FD K mg "_law_word" (defArgs s__law_word) (defBody s__law_word) (defScope s__law_word) ["deck"] fd__law_word
  d_standard_word : FD K mg "standard_word" (defArgs s_standard_word) (defBody s_standard_word) (defScope s_standard_word) ["word"] fd_standard_word
  d__law_plain : FD K mg "_law_plain" (defArgs s__law_plain) (defBody s__law_plain) (defScope s__law_plain) ["value"] fd__law_plain
  d__law_made : FD K mg "_law_made" (defArgs s__law_made) (defBody s__law_made) (defScope s__law_made) ["word", "step"] fd__law_made
  d_stepped : FD K mg "stepped" (defArgs s_stepped) (defBody s_stepped) (defScope s_stepped) ["word", "step"] fd_stepped
  d_knuth_steps : FD K mg "knuth_steps" (defArgs s_knuth_steps) (defBody s_knuth_steps) (defScope s_knuth_steps) ["word"] fd_knuth_steps
  d__law_standard : FD K mg "_law_standard" (defArgs s__law_standard) (defBody s__law_standard) (defScope s__law_standard) ["word"] fd__law_standard
  d_judge_steps : FD K mg "judge_steps" (defArgs s_judge_steps) (defBody s_judge_steps) (defScope s_judge_steps) ["word", "steps", "other"] fd_judge_steps
  d_knuth_step : FD K mg "knuth_step" (defArgs s_knuth_step) (defBody s_knuth_step) (defScope s_knuth_step) ["word", "step"] fd_knuth_step
  d__law_told : FD K mg "_law_told" (defArgs s__law_told) (defBody s__law_told) (defScope s__law_told) ["word", "step"] fd__law_told
  d_law : FD K mg "law" (defArgs s_law) (defBody s_law) (defScope s_law) ["script"] fd_law
  n_abs : mg "abs" = none
  n_bool : mg "bool" = none
  n_enumerate : mg "enumerate" = none
  n_int : mg "int" = none
  n_isinstance : mg "isinstance" = none
  n_len : mg "len" = none
  n_list : mg "list" = none
  n_max : mg "max" = none
  n_min : mg "min" = none
  n_range : mg "range" = none
  n_sorted : mg "sorted" = none
  n_str : mg "str" = none
  n_tuple : mg "tuple" = none
  x_InvalidWord : ExC K "InvalidWord"
  e_InvalidWord : ExB K "TableError"
  m_InvalidWord : mg "InvalidWord" = some (.ref (He.ga K "InvalidWord"))
  i_InvalidWord : FunD K "__init__" "InvalidWord.__init__" (defArgs s_InvalidWord) (defBody s_InvalidWord) (defScope s_InvalidWord) [] [] (He.ma K (He.ga K "InvalidWord") "__init__") fi_InvalidWord
  b_InvalidWord : Binds K fi_InvalidWord ["self", "what"] []
  m_TableError : mg "TableError" = some (.ref (He.ga K "TableError"))
  q_InvalidWord_InvalidWord : PySem.W.exmOne K (.ref (He.ga K "InvalidWord")) (.ref (He.ga K "InvalidWord")) = some true
def cs_InvalidWord : List (Str × Bool) := [("InvalidWord", true)]
section
variable {w : World} {K : PySem.W.Frag} {mg : Str → Option Value} {base : Heap} {fd__law_deck fd__law_take fd__law_word fd_standard_word fd__law_plain fd__law_made fd_stepped fd_knuth_steps fd__law_standard fd_judge_steps fd_knuth_step fd__law_told fd_law fi_InvalidWord : FuncData}
theorem hcs_InvalidWord (T : Fx K mg fd__law_deck fd__law_take fd__law_word fd_standard_word fd__law_plain fd__law_made fd_stepped fd_knuth_steps fd__law_standard fd_judge_steps fd_knuth_step fd__law_told fd_law fi_InvalidWord) : ∀ p ∈ cs_InvalidWord, PySem.W.exmOne K (.ref (He.ga K p.1)) (.ref (He.ga K "InvalidWord")) = some p.2 := by
  intro p hp
  simp only [cs_InvalidWord, List.mem_cons, List.not_mem_nil, or_false] at hp
  rcases hp with rfl
  · exact T.q_InvalidWord_InvalidWord
theorem tx_InvalidWord (T : Fx K mg fd__law_deck fd__law_take fd__law_word fd_standard_word fd__law_plain fd__law_made fd_stepped fd_knuth_steps fd__law_standard fd_judge_steps fd_knuth_step fd__law_told fd_law fi_InvalidWord) {xn : Str} (h : cs_InvalidWord.lookup xn = some true) : ExC K xn := by
  have m := hcs_InvalidWord T (xn, true) (PySem.mem_of_lookup h)
  have m2 := PySem.mem_of_lookup h
  simp only [cs_InvalidWord, List.mem_cons, List.not_mem_nil, or_false, Prod.mk.injEq, and_true, Bool.true_eq_false, and_false, false_or, or_false] at m2
  subst m2
  exact T.x_InvalidWord
theorem oi_InvalidWord (T : Fx K mg fd__law_deck fd__law_take fd__law_word fd_standard_word fd__law_plain fd__law_made fd_stepped fd_knuth_steps fd__law_standard fd_judge_steps fd_knuth_step fd__law_told fd_law fi_InvalidWord) : FnOk pw w K mg base (L2.CX pw w) 1 (He.ma K (He.ga K "InvalidWord") "__init__") fi_InvalidWord ["self", "what"] (spI (He.ga K "InvalidWord")) :=
  ok_init (t := "invalid word: ") T.i_InvalidWord sc_InvalidWord T.x_InvalidWord (by decide) fun cdv A outer s H E =>
    pss_cons (ps_expr (pe_vinit (x := "TableError") rfl T.m_TableError T.e_InvalidWord (by exact (pa_cons (pv 0) (pa_cons (pe_op op_add_str pe_str (pv 1)) pa_nil))))) (pss_one (ps_ost (pv 0) (pv 1)))
/-! _law_deck: 0 script 1 cells 2 each 3 deck 4 seed 5 k 6 cell 7 rest 8 at -/
theorem ok__law_deck (T : Fx K mg fd__law_deck fd__law_take fd__law_word fd_standard_word fd__law_plain fd__law_made fd_stepped fd_knuth_steps fd__law_standard fd_judge_steps fd_knuth_step fd__law_told fd_law fi_InvalidWord) : FnOk pw w K mg base (L2.CX pw w) 1 (He.ga K "_law_deck") fd__law_deck ["script", "cells", "each"] (spG K 3 m_deck) :=
  fn_gen T.d__law_deck.F sc__law_deck (b := b_deck) (fun cdv A outer s H E hr => (dss_cons (ds_set 3 sc__law_deck.nd (de_lst true da_nil)) (dss_cons (ds_set 4 sc__law_deck.nd (de_bin opr_add (opd_add false) de_int (de_cb clr_len cld_len rfl T.n_len (by decide +kernel) (da_cons (de_var 0) da_nil)))) (dss_cons (ds_for (passes_of rfl) rfl (di_range1 rfl T.n_range (da_cons (de_var 1) da_nil)) (dg_name 5 sc__law_deck.nd) (dss_cons (ds_set 6 sc__law_deck.nd de_int) (dss_cons (ds_if (dt_cmp op_lt (opd_ord _) (nomark _) (de_var 5) (de_cb clr_len cld_len rfl T.n_len (by decide +kernel) (da_cons (de_var 0) da_nil))) (dss_one (ds_set 6 sc__law_deck.nd (de_ix (de_var 0) (de_var 5)))) dss_nil) (dss_cons (ds_set 7 sc__law_deck.nd (de_cb call_abs cld_abs rfl T.n_abs (by decide +kernel) (da_cons (de_var 6) da_nil))) (dss_one (ds_if (dt_cmp op_ge (opd_ord _) (nomark _) (de_var 7) (de_bin op_pow opd_pow de_int de_int)) (dss_one (ds_for (passes_of rfl) rfl (di_range1 rfl T.n_range (da_cons (de_var 2) da_nil)) (dg_name 8 sc__law_deck.nd) (dss_cons (ds_expr (de_lm PySem.F.slot_list_append PySem.F.type_list_append mt_append mtd_append (de_var 3) (da_cons (de_bin op_modN opd_mod (de_ct call_int1 cld_int1 rfl T.n_int (by decide +kernel) (da_cons (de_var 7) da_nil)) de_int) da_nil))) (dss_one (ds_set 7 sc__law_deck.nd (de_bin op_fdivN opd_fdiv (de_var 7) de_int)))))) (dss_cons (ds_set 4 sc__law_deck.nd (de_bin op_modN opd_mod (de_ct call_int1 cld_int1 rfl T.n_int (by decide +kernel) (da_cons (de_bin opr_add (opd_add false) (de_bin opr_add (opd_add false) (de_bin opr_add (opd_add false) (de_bin opr_mul (opd_mul false) (de_var 4) de_int) (de_bin opr_mul (opd_mul false) de_int (de_var 7))) (de_ct call_int1 cld_int1 rfl T.n_int (by decide +kernel) (da_cons (de_cmp op_lt (opd_ord _) (nomark _) (de_var 6) de_int) da_nil))) (de_var 5)) da_nil)) de_int)) (dss_one (ds_for (passes_of rfl) rfl (di_range1 rfl T.n_range (da_cons (de_var 2) da_nil)) (dg_name 8 sc__law_deck.nd) (dss_cons (ds_set 4 sc__law_deck.nd (de_bin op_modN opd_mod (de_ct call_int1 cld_int1 rfl T.n_int (by decide +kernel) (da_cons (de_bin opr_add (opd_add false) (de_bin opr_add (opd_add false) (de_bin opr_mul (opd_mul false) (de_var 4) de_int) (de_var 8)) de_int) da_nil)) de_int)) (dss_one (ds_expr (de_lm PySem.F.slot_list_append PySem.F.type_list_append mt_append mtd_append (de_var 3) (da_cons (de_bin op_modN opd_mod (de_ct call_int1 cld_int1 rfl T.n_int (by decide +kernel) (da_cons (de_bin op_fdivN opd_fdiv (de_var 4) de_int) da_nil)) de_int) da_nil)))))))))))))) (dss_cons (ds_expr (de_lm0 PySem.F.slot_list_reverse PySem.F.type_list_reverse mt_reverse mtd_reverse (de_var 3))) (dss_one (ds_ret (de_var 3))))))))
/-! _law_take: 0 deck 1 many -/
theorem ok__law_take (T : Fx K mg fd__law_deck fd__law_take fd__law_word fd_standard_word fd__law_plain fd__law_made fd_stepped fd_knuth_steps fd__law_standard fd_judge_steps fd_knuth_step fd__law_told fd_law fi_InvalidWord) : FnOk pw w K mg base (L2.CX pw w) 1 (He.ga K "_law_take") fd__law_take ["deck", "many"] (spG K 2 m_take) :=
  fn_cut T.d__law_take.F sc__law_take (b := b_take) (fun cdv A outer s H E hr => (dss_cons (ds_if (dt_cmp (op_eqD hr.units) opd_eq (nomark _) (de_cb clr_len cld_len rfl T.n_len (by decide +kernel) (da_cons (de_var 0) da_nil)) de_int) (dss_one (ds_ret de_int)) dss_nil) (dss_one (ds_ret (de_bin op_modN opd_mod (de_ct call_int1 cld_int1 rfl T.n_int (by decide +kernel) (da_cons (de_lm0 PySem.F.slot_list_pop PySem.F.type_list_pop mt_pop mtd_pop (de_var 0)) da_nil)) (de_var 1))))))
/-! _law_word: 0 deck 1 most 2 at -/
def b__law_word : FS := sSeq (sAsg (fBin (fLst false (fCons (fC (.int 2)) (fCons (fC (.int 4)) (fCons (fC (.int 6)) (fNil))))) (fCall (m_take) (fCons (fVar 0) (fCons (fC (.int 3)) (fNil)))) (g2 ixF)) (gNm 1)) (sRet (fComp false (([("at", 2)] : List (Str × Nat)).map (·.2)) (fRng1 (fCons (fCall (m_take) (fCons (fVar 0) (fCons (fC (.int 13)) (fNil)))) (fNil))) (CT.nm 2) (fYes) (fBin (fC (.int 1)) (fCall (m_take) (fCons (fVar 0) (fCons (fVar 1) (fNil)))) (g2 (addF false)))))
def m__law_word : List Sl → Store → Out Sl := fun ss μ => runC μ.length (b__law_word (startE 3 ss) μ)
theorem ok__law_word (T : Fx K mg fd__law_deck fd__law_take fd__law_word fd_standard_word fd__law_plain fd__law_made fd_stepped fd_knuth_steps fd__law_standard fd_judge_steps fd_knuth_step fd__law_told fd_law fi_InvalidWord) : FnOk pw w K mg base (L2.CX pw w) 2 (He.ga K "_law_word") fd__law_word ["deck"] (spG K 1 m__law_word) :=
  fn_cut T.d__law_word.F sc__law_word (b := b__law_word) (fun cdv A outer s H E hr => (dss_cons (ds_set 1 sc__law_word.nd (de_ix (de_lst false (da_cons de_int (da_cons de_int (da_cons de_int da_nil)))) (de_call (ok__law_take T) (hr.mono (by decide)) rfl T.d__law_take.m T.d__law_take.F.kp T.d__law_take.b (takes_of rfl rfl rfl rfl) (da_cons (de_var 0) (da_cons de_int da_nil))))) (dss_one (ds_ret (de_lc false (own := [("at", 2)]) rfl sc__law_word.nd (di_range1 rfl T.n_range (da_cons (de_call (ok__law_take T) (hr.mono (by decide)) rfl T.d__law_take.m T.d__law_take.F.kp T.d__law_take.b (takes_of rfl rfl rfl rfl) (da_cons (de_var 0) (da_cons de_int da_nil))) da_nil)) (blkOk_by (by kernel_rfl)) (fun _ _ _ _ _ => (pct_nm 2 sc__law_word.nd rfl (by first | exact Or.inl rfl | exact Or.inr rfl) (by first | exact .inl rfl | exact .inr rfl))) (fun _ _ _ _ _ => dts_nil) (fun _ _ _ _ _ => (de_bin opr_add (opd_add false) de_int (de_call (ok__law_take T) (hr.mono (by decide)) rfl T.d__law_take.m T.d__law_take.F.kp T.d__law_take.b takes0 (da_cons (de_var 0) (da_cons (de_var 1) da_nil))))))))))
/-! standard_word: 0 word 1 order 2 found 3 number 4 pair 5 at -/
def b_standard_word_1 : FS := sAsg (fBin (fVar 3) (fC (.int 1)) (g2 (addF false))) (gSubF (fVar 2) (fBin (fVar 4) (fC (.int 1)) (g2 ixF)) setL)
def b_standard_word : FS := sSeq (sAsg (fCall (gc1 (sortF false)) (fCons (fComp false (([("at", 5)] : List (Str × Nat)).map (·.2)) (fRng1 (fCons (fCall (gc1 lenF) (fCons (fVar 0) (fNil))) (fNil))) (CT.nm 5) (fYes) (fTup (fCons (fBin (fVar 0) (fVar 5) (g2 ixF)) (fCons (fVar 5) (fNil))))) (fNil))) (gNm 1)) (sSeq (sAsg (fBin (fLst false (fCons (fC (.int 0)) (fNil))) (fCall (gc1 lenF) (fCons (fVar 0) (fNil))) (g2 (mulF true))) (gNm 2)) (sSeq (sFor (fEnum (fCons (fVar 1) (fNil))) (gUnp 2 (gsCons (gNm 3) (gsCons (gNm 4) (gsNil)))) (b_standard_word_1)) (sGhost (tFreeze 2) (sRet (fVar 2)))))
def m_standard_word : List Sl → Store → Out Sl := lift (pureOf 6 b_standard_word)
theorem ok_standard_word (T : Fx K mg fd__law_deck fd__law_take fd__law_word fd_standard_word fd__law_plain fd__law_made fd_stepped fd_knuth_steps fd__law_standard fd_judge_steps fd_knuth_step fd__law_told fd_law fi_InvalidWord) : FnOk pw w K mg base (L2.CX pw w) 1 (He.ga K "standard_word") fd_standard_word ["word"] (spG K 1 m_standard_word) :=
  fn_pure T.d_standard_word.F sc_standard_word (b := b_standard_word) (fun cdv A outer s H E hr => (dss_cons (ds_set 1 sc_standard_word.nd (de_cb (cr_sortD (hu70 hr)) (cld_sort false) rfl T.n_sorted (by decide +kernel) (da_cons (de_lc false (own := [("at", 5)]) rfl sc_standard_word.nd (di_range1 rfl T.n_range (da_cons (de_cb clr_len cld_len rfl T.n_len (by decide +kernel) (da_cons (de_var 0) da_nil)) da_nil)) (blkOk_by (by kernel_rfl)) (fun _ _ _ _ _ => (pct_nm 5 sc_standard_word.nd rfl (by first | exact Or.inl rfl | exact Or.inr rfl) (by first | exact .inl rfl | exact .inr rfl))) (fun _ _ _ _ _ => dts_nil) (fun _ _ _ _ _ => (de_tup (da_cons (de_ix (de_var 0) (de_var 5)) (da_cons (de_var 5) da_nil))))) da_nil))) (dss_cons (ds_set 2 sc_standard_word.nd (de_bin opr_mul (opd_mul true) (de_lst false (da_cons de_int da_nil)) (de_cb clr_len cld_len rfl T.n_len (by decide +kernel) (da_cons (de_var 0) da_nil)))) (dss_cons (ds_for (passes_of rfl) rfl (di_enum rfl T.n_enumerate (da_cons (de_var 1) da_nil)) (dg_tup rfl (dgs_cons (dg_name 3 sc_standard_word.nd) (dgs_cons (dg_name 4 sc_standard_word.nd) dgs_nil))) (dss_one (ds_asg (de_bin opr_add (opd_add false) (de_var 3) de_int) (dg_subL (W := W0) (de_var 2) (de_ix (de_var 4) de_int))))) (dss_ghost (ghost_freeze 2) (dss_one (ds_ret (de_var 2))))))))
/-! _law_plain: 0 value 1 item -/
theorem ok__law_plain (T : Fx K mg fd__law_deck fd__law_take fd__law_word fd_standard_word fd__law_plain fd__law_made fd_stepped fd_knuth_steps fd__law_standard fd_judge_steps fd_knuth_step fd__law_told fd_law fi_InvalidWord) : ∀ n : Nat, FnOk pw w K mg base (L2.CX pw w) (n + 0) (He.ga K "_law_plain") fd__law_plain ["value"] (spG K 1 (m_plain n))
  | 0 => fn_noneP
  | k + 1 => by
    have ih := ok__law_plain T k
    have e : k + 1 + 0 = (k + 0) + 1 := by omega
    rw [e]
    exact fn_pure T.d__law_plain.F sc__law_plain (b := b_plain (m_plain k)) (fun cdv A outer s H E hr => (dss_cons (ds_if (dt_val (de_cb clr_isi cld_isi rfl T.n_isinstance (by decide +kernel) (da_cons (de_var 0) (da_cons (de_tup (da_cons (de_ty rfl T.n_tuple (by decide +kernel)) (da_cons (de_ty rfl T.n_list (by decide +kernel)) da_nil))) da_nil)))) (dss_one (ds_ret (de_bin opr_add (opd_add false) (de_lst false (da_cons (de_cb clr_isi cld_isi rfl T.n_isinstance (by decide +kernel) (da_cons (de_var 0) (da_cons (de_ty rfl T.n_list (by decide +kernel)) da_nil))) da_nil)) (de_lc false (own := [("item", 1)]) rfl sc__law_plain.nd (di_seq (de_var 0)) (blkOk_by (by kernel_rfl)) (fun _ _ _ _ _ => (pct_nm 1 sc__law_plain.nd rfl (by first | exact Or.inl rfl | exact Or.inr rfl) (by first | exact .inl rfl | exact .inr rfl))) (fun _ _ _ _ _ => dts_nil) (fun _ _ _ _ _ => (de_call (ih) (hr.mono (by omega)) rfl T.d__law_plain.m T.d__law_plain.F.kp T.d__law_plain.b takes0 (da_cons (de_var 1) da_nil))))))) dss_nil) (dss_cons (ds_if (dt_w (dw_or (dt_isN (de_var 0)) (dw_or1 (dt_val (de_cb clr_isi cld_isi rfl T.n_isinstance (by decide +kernel) (da_cons (de_var 0) (da_cons (de_ty rfl T.n_bool (by decide +kernel)) da_nil))))))) (dss_one (ds_ret (de_ix (de_lst false (da_cons de_str (da_cons de_str (da_cons de_str da_nil)))) (de_bin opr_add (opd_add false) (de_ct call_int1 cld_int1 rfl T.n_int (by decide +kernel) (da_cons (de_notN (de_var 0)) da_nil)) (de_ct call_int1 cld_int1 rfl T.n_int (by decide +kernel) (da_cons (de_cmp (op_isC false) (opd_is false) rfl (de_var 0) de_bl) da_nil)))))) dss_nil) (dss_cons (ds_if (dt_val (de_cb clr_isi cld_isi rfl T.n_isinstance (by decide +kernel) (da_cons (de_var 0) (da_cons (de_tup (da_cons (de_ty rfl T.n_int (by decide +kernel)) (da_cons (de_ty rfl T.n_str (by decide +kernel)) da_nil))) da_nil)))) (dss_one (ds_ret (de_lst false (da_cons (de_cb clr_isi cld_isi rfl T.n_isinstance (by decide +kernel) (da_cons (de_var 0) (da_cons (de_ty rfl T.n_str (by decide +kernel)) da_nil))) (da_cons (de_var 0) da_nil))))) dss_nil) (dss_one (ds_ret de_str))))))
/-! _law_made: 0 word 1 step 2 kind 3 place 4 a 5 b 6 c 7 low 8 high -/
def b__law_made : FS := sSeq (sAsg (fVar 1) (gUnp 2 (gsCons (gNm 2) (gsCons (gNm 3) (gsNil))))) (sSeq (sIf (fOr (fTest (fBin (fVar 3) (fC (.int 0)) (g2 ltF))) (fTest (fBin (fBin (fVar 3) (fC (.int 3)) (g2 (addF false))) (fCall (gc1 lenF) (fCons (fVar 0) (fNil))) (g2 gtF)))) (sRet (fC .non)) (sSkip)) (sSeq (sAsg (fSl false (fVar 0) (fPart (fVar 3)) (fPart (fBin (fVar 3) (fC (.int 3)) (g2 (addF false))))) (gUnpL 3 (gsCons (gNm 4) (gsCons (gNm 5) (gsCons (gNm 6) (gsNil)))))) (sSeq (sIf (fTest (fBin (fVar 2) (fC (.str "first")) (g2 eqF))) (sSeq (sAsg (fCall (gc2 min2F) (fCons (fVar 4) (fCons (fVar 5) (fNil)))) (gNm 7)) (sSeq (sAsg (fCall (gc2 max2F) (fCons (fVar 4) (fCons (fVar 5) (fNil)))) (gNm 8)) (sRet (fIf (fAnd (fTest (fBin (fVar 7) (fVar 6) (g2 leF))) (fTest (fBin (fVar 6) (fVar 8) (g2 ltF)))) (fBin (fBin (fSl false (fVar 0) (fNo) (fPart (fVar 3))) (fLst false (fCons (fVar 5) (fCons (fVar 4) (fCons (fVar 6) (fNil))))) (g2 (addF false))) (fSl false (fVar 0) (fPart (fBin (fVar 3) (fC (.int 3)) (g2 (addF false)))) (fNo)) (g2 (addF false))) (fC .non))))) (sSkip)) (sSeq (sAsg (fCall (gc2 min2F) (fCons (fVar 5) (fCons (fVar 6) (fNil)))) (gNm 7)) (sSeq (sAsg (fCall (gc2 max2F) (fCons (fVar 5) (fCons (fVar 6) (fNil)))) (gNm 8)) (sRet (fIf (fAnd (fTest (fBin (fVar 7) (fVar 4) (g2 ltF))) (fTest (fBin (fVar 4) (fVar 8) (g2 leF)))) (fBin (fBin (fSl false (fVar 0) (fNo) (fPart (fVar 3))) (fLst false (fCons (fVar 4) (fCons (fVar 6) (fCons (fVar 5) (fNil))))) (g2 (addF false))) (fSl false (fVar 0) (fPart (fBin (fVar 3) (fC (.int 3)) (g2 (addF false)))) (fNo)) (g2 (addF false))) (fC .non))))))))
def m__law_made : List Sl → Store → Out Sl := lift (pureOf 9 b__law_made)
theorem ok__law_made (T : Fx K mg fd__law_deck fd__law_take fd__law_word fd_standard_word fd__law_plain fd__law_made fd_stepped fd_knuth_steps fd__law_standard fd_judge_steps fd_knuth_step fd__law_told fd_law fi_InvalidWord) : FnOk pw w K mg base (L2.CX pw w) 1 (He.ga K "_law_made") fd__law_made ["word", "step"] (spG K 2 m__law_made) :=
  fn_pure T.d__law_made.F sc__law_made (b := b__law_made) (fun cdv A outer s H E hr => (dss_cons (ds_asg (de_var 1) (dg_tup rfl (dgs_cons (dg_name 2 sc__law_made.nd) (dgs_cons (dg_name 3 sc__law_made.nd) dgs_nil)))) (dss_cons (ds_if (dt_w (dw_or (dt_cmp op_lt (opd_ord _) (nomark _) (de_var 3) de_int) (dw_or1 (dt_cmp op_gt (opd_ord _) (nomark _) (de_bin opr_add (opd_add false) (de_var 3) de_int) (de_cb clr_len cld_len rfl T.n_len (by decide +kernel) (da_cons (de_var 0) da_nil)))))) (dss_one (ds_ret de_non)) dss_nil) (dss_cons (ds_asg (de_sl false (de_var 0) (do_some (de_var 3)) (do_some (de_bin opr_add (opd_add false) (de_var 3) de_int))) (dg_unl rfl (dgs_cons (dg_name 4 sc__law_made.nd) (dgs_cons (dg_name 5 sc__law_made.nd) (dgs_cons (dg_name 6 sc__law_made.nd) dgs_nil))))) (dss_cons (ds_if (dt_cmp (op_eqD hr.units) opd_eq (nomark _) (de_var 2) de_str) (dss_cons (ds_set 7 sc__law_made.nd (de_cb (call_min2 rfl) cld_min2 rfl T.n_min (by decide +kernel) (da_cons (de_var 4) (da_cons (de_var 5) da_nil)))) (dss_cons (ds_set 8 sc__law_made.nd (de_cb (call_max2 rfl) cld_max2 rfl T.n_max (by decide +kernel) (da_cons (de_var 4) (da_cons (de_var 5) da_nil)))) (dss_one (ds_ret (de_if (dt_w (dw_and (dt_cmp op_le (opd_ord _) (nomark _) (de_var 7) (de_var 6)) (dw_and1 (dt_cmp op_lt (opd_ord _) (nomark _) (de_var 6) (de_var 8))))) (de_bin opr_add (opd_add false) (de_bin opr_add (opd_add false) (de_sl false (de_var 0) do_none (do_some (de_var 3))) (de_lst false (da_cons (de_var 5) (da_cons (de_var 4) (da_cons (de_var 6) da_nil))))) (de_sl false (de_var 0) (do_some (de_bin opr_add (opd_add false) (de_var 3) de_int)) do_none)) de_non))))) dss_nil) (dss_cons (ds_set 7 sc__law_made.nd (de_cb (call_min2 rfl) cld_min2 rfl T.n_min (by decide +kernel) (da_cons (de_var 5) (da_cons (de_var 6) da_nil)))) (dss_cons (ds_set 8 sc__law_made.nd (de_cb (call_max2 rfl) cld_max2 rfl T.n_max (by decide +kernel) (da_cons (de_var 5) (da_cons (de_var 6) da_nil)))) (dss_one (ds_ret (de_if (dt_w (dw_and (dt_cmp op_lt (opd_ord _) (nomark _) (de_var 7) (de_var 4)) (dw_and1 (dt_cmp op_le (opd_ord _) (nomark _) (de_var 4) (de_var 8))))) (de_bin opr_add (opd_add false) (de_bin opr_add (opd_add false) (de_sl false (de_var 0) do_none (do_some (de_var 3))) (de_lst false (da_cons (de_var 4) (da_cons (de_var 6) (da_cons (de_var 5) da_nil))))) (de_sl false (de_var 0) (do_some (de_bin opr_add (opd_add false) (de_var 3) de_int)) do_none)) de_non))))))))))
/-! stepped: 0 word 1 step 2 kind 3 place 4 one 5 two 6 three -/
def b_stepped : FS := sSeq (sAsg (fVar 1) (gUnp 2 (gsCons (gNm 2) (gsCons (gNm 3) (gsNil))))) (sSeq (sIf (fOr (fTest (fBin (fVar 2) (fTup (fCons (fC (.str "first")) (fCons (fC (.str "last")) (fNil)))) (g2 (inF true)))) (fNot (fTest (fChain (fC (.int 0)) (fVar 3) (fBin (fCall (gc1 lenF) (fCons (fVar 0) (fNil))) (fC (.int 3)) (g2 subF)) (g2 leF) (g2 leF))))) (sRet (fC .non)) (sSkip)) (sSeq (sAsg (fSl false (fVar 0) (fPart (fVar 3)) (fPart (fBin (fVar 3) (fC (.int 3)) (g2 (addF false))))) (gUnpL 3 (gsCons (gNm 4) (gsCons (gNm 5) (gsCons (gNm 6) (gsNil)))))) (sSeq (sIf (fAnd (fTest (fBin (fVar 2) (fC (.str "first")) (g2 eqF))) (fTest (fChain (fCall (gc2 min2F) (fCons (fVar 4) (fCons (fVar 5) (fNil)))) (fVar 6) (fCall (gc2 max2F) (fCons (fVar 4) (fCons (fVar 5) (fNil)))) (g2 leF) (g2 ltF)))) (sRet (fBin (fBin (fSl false (fVar 0) (fNo) (fPart (fVar 3))) (fLst false (fCons (fVar 5) (fCons (fVar 4) (fCons (fVar 6) (fNil))))) (g2 (addF false))) (fSl false (fVar 0) (fPart (fBin (fVar 3) (fC (.int 3)) (g2 (addF false)))) (fNo)) (g2 (addF false)))) (sSkip)) (sSeq (sIf (fAnd (fTest (fBin (fVar 2) (fC (.str "last")) (g2 eqF))) (fTest (fChain (fCall (gc2 min2F) (fCons (fVar 5) (fCons (fVar 6) (fNil)))) (fVar 4) (fCall (gc2 max2F) (fCons (fVar 5) (fCons (fVar 6) (fNil)))) (g2 ltF) (g2 leF)))) (sRet (fBin (fBin (fSl false (fVar 0) (fNo) (fPart (fVar 3))) (fLst false (fCons (fVar 4) (fCons (fVar 6) (fCons (fVar 5) (fNil))))) (g2 (addF false))) (fSl false (fVar 0) (fPart (fBin (fVar 3) (fC (.int 3)) (g2 (addF false)))) (fNo)) (g2 (addF false)))) (sSkip)) (sRet (fC .non))))))
def m_stepped : List Sl → Store → Out Sl := lift (pureOf 7 b_stepped)
theorem ok_stepped (T : Fx K mg fd__law_deck fd__law_take fd__law_word fd_standard_word fd__law_plain fd__law_made fd_stepped fd_knuth_steps fd__law_standard fd_judge_steps fd_knuth_step fd__law_told fd_law fi_InvalidWord) : FnOk pw w K mg base (L2.CX pw w) 1 (He.ga K "stepped") fd_stepped ["word", "step"] (spG K 2 m_stepped) :=
  fn_pure T.d_stepped.F sc_stepped (b := b_stepped) (fun cdv A outer s H E hr => (dss_cons (ds_asg (de_var 1) (dg_tup rfl (dgs_cons (dg_name 2 sc_stepped.nd) (dgs_cons (dg_name 3 sc_stepped.nd) dgs_nil)))) (dss_cons (ds_if (dt_w (dw_or (dt_in true (hu65 hr) rfl (de_var 2) (de_tup (da_cons de_str (da_cons de_str da_nil)))) (dw_or1 (dt_not (dt_chain op_le (opd_ord _) op_le (opd_ord _) de_int (de_var 3) (de_bin op_sub opd_sub (de_cb clr_len cld_len rfl T.n_len (by decide +kernel) (da_cons (de_var 0) da_nil)) de_int)))))) (dss_one (ds_ret de_non)) dss_nil) (dss_cons (ds_asg (de_sl false (de_var 0) (do_some (de_var 3)) (do_some (de_bin opr_add (opd_add false) (de_var 3) de_int))) (dg_unl rfl (dgs_cons (dg_name 4 sc_stepped.nd) (dgs_cons (dg_name 5 sc_stepped.nd) (dgs_cons (dg_name 6 sc_stepped.nd) dgs_nil))))) (dss_cons (ds_if (dt_w (dw_and (dt_cmp (op_eqD hr.units) opd_eq (nomark _) (de_var 2) de_str) (dw_and1 (dt_chain op_le (opd_ord _) op_lt (opd_ord _) (de_cb (call_min2 rfl) cld_min2 rfl T.n_min (by decide +kernel) (da_cons (de_var 4) (da_cons (de_var 5) da_nil))) (de_var 6) (de_cb (call_max2 rfl) cld_max2 rfl T.n_max (by decide +kernel) (da_cons (de_var 4) (da_cons (de_var 5) da_nil))))))) (dss_one (ds_ret (de_bin opr_add (opd_add false) (de_bin opr_add (opd_add false) (de_sl false (de_var 0) do_none (do_some (de_var 3))) (de_lst false (da_cons (de_var 5) (da_cons (de_var 4) (da_cons (de_var 6) da_nil))))) (de_sl false (de_var 0) (do_some (de_bin opr_add (opd_add false) (de_var 3) de_int)) do_none)))) dss_nil) (dss_cons (ds_if (dt_w (dw_and (dt_cmp (op_eqD hr.units) opd_eq (nomark _) (de_var 2) de_str) (dw_and1 (dt_chain op_lt (opd_ord _) op_le (opd_ord _) (de_cb (call_min2 rfl) cld_min2 rfl T.n_min (by decide +kernel) (da_cons (de_var 5) (da_cons (de_var 6) da_nil))) (de_var 4) (de_cb (call_max2 rfl) cld_max2 rfl T.n_max (by decide +kernel) (da_cons (de_var 5) (da_cons (de_var 6) da_nil))))))) (dss_one (ds_ret (de_bin opr_add (opd_add false) (de_bin opr_add (opd_add false) (de_sl false (de_var 0) do_none (do_some (de_var 3))) (de_lst false (da_cons (de_var 4) (da_cons (de_var 6) (da_cons (de_var 5) da_nil))))) (de_sl false (de_var 0) (do_some (de_bin opr_add (opd_add false) (de_var 3) de_int)) do_none)))) dss_nil) (dss_one (ds_ret de_non))))))))
/-! knuth_steps: 0 word 1 found 2 kind 3 place -/
def b_knuth_steps_1 : FS := sIf (fTest (fUn (fCall (m_stepped) (fCons (fVar 0) (fCons (fTup (fCons (fVar 2) (fCons (fVar 3) (fNil)))) (fNil)))) (isNonF true))) (sDrop (fMeth isLst (fVar 1) (fCons (fTup (fCons (fVar 2) (fCons (fVar 3) (fNil)))) (fNil)) appendG)) (sSkip)
def b_knuth_steps_2 : FS := sFor (fRng1 (fCons (fBin (fCall (gc1 lenF) (fCons (fVar 0) (fNil))) (fC (.int 2)) (g2 subF)) (fNil))) (gNm 3) (b_knuth_steps_1)
def b_knuth_steps : FS := sSeq (sAsg (fLst true (fNil)) (gNm 1)) (sSeq (sFor (fSeq (fTup (fCons (fC (.str "first")) (fCons (fC (.str "last")) (fNil))))) (gNm 2) (b_knuth_steps_2)) (sGhost (tFreeze 1) (sRet (fVar 1))))
def m_knuth_steps : List Sl → Store → Out Sl := lift (pureOf 4 b_knuth_steps)
theorem ok_knuth_steps (T : Fx K mg fd__law_deck fd__law_take fd__law_word fd_standard_word fd__law_plain fd__law_made fd_stepped fd_knuth_steps fd__law_standard fd_judge_steps fd_knuth_step fd__law_told fd_law fi_InvalidWord) : FnOk pw w K mg base (L2.CX pw w) 2 (He.ga K "knuth_steps") fd_knuth_steps ["word"] (spG K 1 m_knuth_steps) :=
  fn_pure T.d_knuth_steps.F sc_knuth_steps (b := b_knuth_steps) (fun cdv A outer s H E hr => (dss_cons (ds_set 1 sc_knuth_steps.nd (de_lst true da_nil)) (dss_cons (ds_for (passes_of rfl) rfl (di_seq (de_tup (da_cons de_str (da_cons de_str da_nil)))) (dg_name 2 sc_knuth_steps.nd) (dss_one (ds_for (passes_of rfl) rfl (di_range1 rfl T.n_range (da_cons (de_bin op_sub opd_sub (de_cb clr_len cld_len rfl T.n_len (by decide +kernel) (da_cons (de_var 0) da_nil)) de_int) da_nil)) (dg_name 3 sc_knuth_steps.nd) (dss_one (ds_if (dt_notN (de_call (ok_stepped T) (hr.mono (by decide)) rfl T.d_stepped.m T.d_stepped.F.kp T.d_stepped.b (takes_of rfl rfl rfl rfl) (da_cons (de_var 0) (da_cons (de_tup (da_cons (de_var 2) (da_cons (de_var 3) da_nil))) da_nil)))) (dss_one (ds_expr (de_lm PySem.F.slot_list_append PySem.F.type_list_append mt_append mtd_append (de_var 1) (da_cons (de_tup (da_cons (de_var 2) (da_cons (de_var 3) da_nil))) da_nil)))) dss_nil))))) (dss_ghost (ghost_freeze 1) (dss_one (ds_ret (de_var 1)))))))
/-! _law_standard: 0 word 1 found 2 at 3 less 4 letter -/
def b__law_standard_1 : FS := sSeq (sAsg (fCall (gc1 lenF) (fCons (fComp false (([("letter", 4)] : List (Str × Nat)).map (·.2)) (fSeq (fVar 0)) (CT.nm 4) (fTest (fBin (fVar 4) (fBin (fVar 0) (fVar 2) (g2 ixF)) (g2 ltF))) (fVar 4)) (fNil))) (gNm 3)) (sDrop (fMeth isLst (fVar 1) (fCons (fBin (fBin (fC (.int 1)) (fVar 3) (g2 (addF false))) (fMeth isLst (fSl false (fVar 0) (fNo) (fPart (fVar 2))) (fCons (fBin (fVar 0) (fVar 2) (g2 ixF)) (fNil)) countG) (g2 (addF false))) (fNil)) appendG))
def b__law_standard : FS := sSeq (sAsg (fLst true (fNil)) (gNm 1)) (sSeq (sFor (fRng1 (fCons (fCall (gc1 lenF) (fCons (fVar 0) (fNil))) (fNil))) (gNm 2) (b__law_standard_1)) (sGhost (tFreeze 1) (sRet (fVar 1))))
def m__law_standard : List Sl → Store → Out Sl := lift (pureOf 5 b__law_standard)
theorem ok__law_standard (T : Fx K mg fd__law_deck fd__law_take fd__law_word fd_standard_word fd__law_plain fd__law_made fd_stepped fd_knuth_steps fd__law_standard fd_judge_steps fd_knuth_step fd__law_told fd_law fi_InvalidWord) : FnOk pw w K mg base (L2.CX pw w) 1 (He.ga K "_law_standard") fd__law_standard ["word"] (spG K 1 m__law_standard) :=
  fn_pure T.d__law_standard.F sc__law_standard (b := b__law_standard) (fun cdv A outer s H E hr => (dss_cons (ds_set 1 sc__law_standard.nd (de_lst true da_nil)) (dss_cons (ds_for (passes_of rfl) rfl (di_range1 rfl T.n_range (da_cons (de_cb clr_len cld_len rfl T.n_len (by decide +kernel) (da_cons (de_var 0) da_nil)) da_nil)) (dg_name 2 sc__law_standard.nd) (dss_cons (ds_set 3 sc__law_standard.nd (de_cb clr_len cld_len rfl T.n_len (by decide +kernel) (da_cons (de_lc false (own := [("letter", 4)]) rfl sc__law_standard.nd (di_seq (de_var 0)) (blkOk_by (by kernel_rfl)) (fun _ _ _ _ _ => (pct_nm 4 sc__law_standard.nd rfl (by first | exact Or.inl rfl | exact Or.inr rfl) (by first | exact .inl rfl | exact .inr rfl))) (fun _ _ _ _ _ => (dts_one (dt_cmp op_lt (opd_ord _) (nomark _) (de_var 4) (de_ix (de_var 0) (de_var 2))))) (fun _ _ _ _ _ => (de_var 4))) da_nil))) (dss_one (ds_expr (de_lm PySem.F.slot_list_append PySem.F.type_list_append mt_append mtd_append (de_var 1) (da_cons (de_bin opr_add (opd_add false) (de_bin opr_add (opd_add false) de_int (de_var 3)) (de_lm PySem.F.slot_list_count PySem.F.type_list_count mt_lcount mtd_count (de_sl false (de_var 0) do_none (do_some (de_var 2))) (da_cons (de_ix (de_var 0) (de_var 2)) da_nil))) da_nil)))))) (dss_ghost (ghost_freeze 1) (dss_one (ds_ret (de_var 1)))))))
/-! judge_steps: 0 word 1 steps 2 other 3 found 4 step -/
def b_judge_steps_1 : FS := sSeq (sAsg (fCall (m_stepped) (fCons (fVar 3) (fCons (fVar 4) (fNil)))) (gNm 3)) (sIf (fTest (fUn (fVar 3) (isNonF false))) (sRet (fC (.bl false))) (sSkip))
def b_judge_steps : FS := sSeq (sAsg (fCall (gc1 (listF false)) (fCons (fVar 0) (fNil))) (gNm 3)) (sSeq (sFor (fSeq (fVar 1)) (gNm 4) (b_judge_steps_1)) (sRet (fBin (fVar 3) (fVar 2) (g2 eqF))))
def m_judge_steps : List Sl → Store → Out Sl := lift (pureOf 5 b_judge_steps)
theorem ok_judge_steps (T : Fx K mg fd__law_deck fd__law_take fd__law_word fd_standard_word fd__law_plain fd__law_made fd_stepped fd_knuth_steps fd__law_standard fd_judge_steps fd_knuth_step fd__law_told fd_law fi_InvalidWord) : FnOk pw w K mg base (L2.CX pw w) 2 (He.ga K "judge_steps") fd_judge_steps ["word", "steps", "other"] (spG K 3 m_judge_steps) :=
  fn_pure T.d_judge_steps.F sc_judge_steps (b := b_judge_steps) (fun cdv A outer s H E hr => (dss_cons (ds_set 3 sc_judge_steps.nd (de_ct call_list_of (cld_list false) rfl T.n_list (by decide +kernel) (da_cons (de_var 0) da_nil))) (dss_cons (ds_for (passes_of rfl) rfl (di_seq (de_var 1)) (dg_name 4 sc_judge_steps.nd) (dss_cons (ds_set 3 sc_judge_steps.nd (de_call (ok_stepped T) (hr.mono (by decide)) rfl T.d_stepped.m T.d_stepped.F.kp T.d_stepped.b (takes_of rfl rfl rfl rfl) (da_cons (de_var 3) (da_cons (de_var 4) da_nil)))) (dss_one (ds_if (dt_isN (de_var 3)) (dss_one (ds_ret de_bl)) dss_nil)))) (dss_one (ds_ret (de_cmp (op_eqD hr.units) opd_eq (nomark _) (de_var 3) (de_var 2)))))))
/-! knuth_step: 0 word 1 step 2 found -/
def b_knuth_step : FS := sSeq (sAsg (fCall (m_stepped) (fCons (fVar 0) (fCons (fVar 1) (fNil)))) (gNm 2)) (sSeq (sIf (fTest (fUn (fVar 2) (isNonF false))) (sRaise "InvalidWord" (fCons (fC (.str "step")) (fNil))) (sSkip)) (sRet (fVar 2)))
def m_knuth_step : List Sl → Store → Out Sl := lift (pureOf 3 b_knuth_step)
theorem ok_knuth_step (T : Fx K mg fd__law_deck fd__law_take fd__law_word fd_standard_word fd__law_plain fd__law_made fd_stepped fd_knuth_steps fd__law_standard fd_judge_steps fd_knuth_step fd__law_told fd_law fi_InvalidWord) : FnOk pw w K mg base (L2.CX pw w) 3 (He.ga K "knuth_step") fd_knuth_step ["word", "step"] (spG K 2 m_knuth_step) :=
  fn_pure T.d_knuth_step.F sc_knuth_step (b := b_knuth_step) (fun cdv A outer s H E hr => (dss_cons (ds_set 2 sc_knuth_step.nd (de_call (ok_stepped T) (hr.mono (by decide)) rfl T.d_stepped.m T.d_stepped.F.kp T.d_stepped.b (takes_of rfl rfl rfl rfl) (da_cons (de_var 0) (da_cons (de_var 1) da_nil)))) (dss_cons (ds_if (dt_isN (de_var 2)) (dss_one (ds_raise rfl (takes_of rfl rfl rfl rfl) T.x_InvalidWord T.m_InvalidWord rfl (oi_InvalidWord T) (hr.mono (by decide)) T.b_InvalidWord (da_cons de_str da_nil))) dss_nil) (dss_one (ds_ret (de_var 2))))))
/-! _law_told: 0 word 1 step 2 error -/
def b__law_told : FS := sTry cs_InvalidWord 2 (sRet (fCall (m_knuth_step) (fCons (fVar 0) (fCons (fVar 1) (fNil))))) (sRet (fTup (fCons (fC (.str "invalid")) (fCons (fWhat (fVar 2)) (fNil)))))
def m__law_told : List Sl → Store → Out Sl := lift (pureOf 3 b__law_told)
theorem ok__law_told (T : Fx K mg fd__law_deck fd__law_take fd__law_word fd_standard_word fd__law_plain fd__law_made fd_stepped fd_knuth_steps fd__law_standard fd_judge_steps fd_knuth_step fd__law_told fd_law fi_InvalidWord) : FnOk pw w K mg base (L2.CX pw w) 4 (He.ga K "_law_told") fd__law_told ["word", "step"] (spG K 2 m__law_told) :=
  fn_pure T.d__law_told.F sc__law_told (b := b__law_told) (fun cdv A outer s H E hr => (dss_one (ds_try (i := 2) (x := "InvalidWord") rfl rfl sc__law_told.nd rfl rfl ⟨rfl, by decide, Or.inl T.m_InvalidWord⟩ (takes_of rfl rfl rfl rfl) (hcs_InvalidWord T) (fun W pn xe tk hp => (dss_one (ds_ret (de_call (ok_knuth_step T) (hr.mono (by decide)) rfl T.d_knuth_step.m T.d_knuth_step.F.kp T.d_knuth_step.b tk (da_cons (de_var 0) (da_cons (de_var 1) da_nil)))))) (fun a oe xn d pn hxn hz hf => (dss_one (ds_ret (de_tup (da_cons de_str (da_cons (de_what (tx_InvalidWord T hxn) hz hf (de_var 2)) da_nil)))))))))
/-! law: 0 script 1 deck 2 turn 3 word 4 all_steps 5 kind 6 place 7 made 8 passed 9 due 10 numbers 11 steps 12 last 13 right 14 step 15 ways 16 fitting 17 other 18 at 19 goal 20 one -/
def b_law_1 : FS := sAsg (fIf (fTest (fUn (fVar 12) (isNonF true))) (fCall (m__law_made) (fCons (fVar 12) (fCons (fVar 14) (fNil)))) (fC .non)) (gNm 12)
def b_law_2 : FS := sSeq (sAsg (fComp false (([("one", 20)] : List (Str × Nat)).map (·.2)) (fSeq (fBin (fComp false (([("at", 18)] : List (Str × Nat)).map (·.2)) (fRng1 (fCons (fC (.int 10)) (fNil))) (CT.nm 18) (fYes) (fTup (fCons (fC (.str "first")) (fCons (fVar 18) (fNil))))) (fComp false (([("at", 18)] : List (Str × Nat)).map (·.2)) (fRng1 (fCons (fC (.int 10)) (fNil))) (CT.nm 18) (fYes) (fTup (fCons (fC (.str "last")) (fCons (fVar 18) (fNil))))) (g2 (addF false)))) (CT.nm 20) (fYes) (fVar 20)) (gNm 15)) (sSeq (sAsg (fComp false (([("one", 20)] : List (Str × Nat)).map (·.2)) (fSeq (fVar 15)) (CT.nm 20) (fTest (fUn (fCall (m__law_made) (fCons (fVar 12) (fCons (fVar 20) (fNil)))) (isNonF true))) (fVar 20)) (gNm 16)) (sIf (fTest (fBin (fCall (gc1 lenF) (fCons (fVar 16) (fNil))) (fC (.int 0)) (g2 gtF))) (sSeq (sDrop (fMeth isLst (fVar 11) (fCons (fBin (fVar 16) (fCall (m_take) (fCons (fVar 1) (fCons (fCall (gc1 lenF) (fCons (fVar 16) (fNil))) (fNil)))) (g2 ixF)) (fNil)) appendG)) (sAsg (fCall (m__law_made) (fCons (fVar 12) (fCons (fBin (fVar 11) (fUn (fC (.int 1)) (g1 negF)) (g2 ixF)) (fNil)))) (gNm 12))) (sSkip)))
def b_law_3 : FS := sSeq (sAsg (fCall (m__law_made) (fCons (fVar 3) (fCons (fTup (fCons (fVar 5) (fCons (fVar 6) (fNil)))) (fNil)))) (gNm 7)) (sSeq (sAsg (fCall (gc1 (listF false)) (fCons (fVar 3) (fNil))) (gNm 8)) (sSeq (sAsg (fIf (fTest (fUn (fVar 7) (isNonF false))) (fTup (fCons (fC (.str "invalid")) (fCons (fC (.str "step")) (fNil)))) (fVar 7)) (gNm 9)) (sSeq (sIf (fOr (fTest (fBin (fCall (m_plain 4) (fCons (fCall (m__law_told) (fCons (fVar 8) (fCons (fTup (fCons (fVar 5) (fCons (fVar 6) (fNil)))) (fNil)))) (fNil))) (fCall (m_plain 4) (fCons (fVar 9) (fNil))) (g2 neF))) (fTest (fBin (fVar 8) (fVar 3) (g2 neF)))) (sRet (fC (.bl false))) (sSkip)) (sIf (fTest (fUn (fVar 7) (isNonF true))) (sSeq (sDrop (fMeth isLst (fVar 4) (fCons (fTup (fCons (fVar 5) (fCons (fVar 6) (fNil)))) (fNil)) appendG)) (sIf (fTest (fBin (fCall (m__law_told) (fCons (fVar 7) (fCons (fTup (fCons (fVar 5) (fCons (fVar 6) (fNil)))) (fNil)))) (fVar 3) (g2 neF))) (sRet (fC (.bl false))) (sSkip))) (sSkip)))))
def b_law_4 : FS := sFor (fRng2 (fCons (fUn (fC (.int 2)) (g1 negF)) (fCons (fBin (fCall (gc1 lenF) (fCons (fVar 3) (fNil))) (fC (.int 2)) (g2 (addF false))) (fNil)))) (gNm 6) (b_law_3)
def b_law_5 : FS := sSeq (sAsg (fCall (m__law_word) (fCons (fVar 1) (fNil))) (gNm 3)) (sSeq (sAsg (fLst true (fNil)) (gNm 4)) (sSeq (sFor (fSeq (fTup (fCons (fC (.str "first")) (fCons (fC (.str "last")) (fNil))))) (gNm 5) (b_law_4)) (sGhost (tFreeze 4) (sSeq (sIf (fTest (fBin (fCall (m_plain 4) (fCons (fCall (m_knuth_steps) (fCons (fCall (gc1 (listF false)) (fCons (fVar 3) (fNil))) (fNil))) (fNil))) (fCall (m_plain 4) (fCons (fVar 4) (fNil))) (g2 neF))) (sRet (fC (.bl false))) (sSkip)) (sSeq (sAsg (fCall (m_standard_word) (fCons (fCall (gc1 (listF false)) (fCons (fVar 3) (fNil))) (fNil))) (gNm 10)) (sSeq (sIf (fOr (fTest (fBin (fCall (m_plain 4) (fCons (fVar 10) (fNil))) (fCall (m_plain 4) (fCons (fCall (m__law_standard) (fCons (fVar 3) (fNil))) (fNil))) (g2 neF))) (fTest (fBin (fCall (m_knuth_steps) (fCons (fCall (gc1 (listF false)) (fCons (fVar 10) (fNil))) (fNil))) (fVar 4) (g2 neF)))) (sRet (fC (.bl false))) (sSkip)) (sSeq (sAsg (fLst true (fNil)) (gNm 11)) (sSeq (sAsg (fCall (gc1 (listF false)) (fCons (fVar 3) (fNil))) (gNm 12)) (sSeq (sAsg (fC (.bl true)) (gNm 13)) (sSeq (sFor (fRng1 (fCons (fCall (m_take) (fCons (fVar 1) (fCons (fC (.int 9)) (fNil)))) (fNil))) (gNm 14) (b_law_2)) (sGhost (tFreeze 11) (sSeq (sIf (fTest (fBin (fCall (m_take) (fCons (fVar 1) (fCons (fC (.int 3)) (fNil)))) (fC (.int 0)) (g2 eqF))) (sSeq (sAsg (fTup (fCons (fC (.str "last")) (fCons (fCall (m_take) (fCons (fVar 1) (fCons (fC (.int 12)) (fNil)))) (fNil)))) (gNm 17)) (sSeq (sAsg (fCall (m_take) (fCons (fVar 1) (fCons (fBin (fCall (gc1 lenF) (fCons (fVar 11) (fNil))) (fC (.int 1)) (g2 (addF false))) (fNil)))) (gNm 18)) (sSeq (sAsg (fBin (fBin (fSl false (fVar 11) (fNo) (fPart (fVar 18))) (fLst false (fCons (fVar 17) (fNil))) (g2 (addF false))) (fSl false (fVar 11) (fPart (fVar 18)) (fNo)) (g2 (addF false))) (gNm 11)) (sSeq (sAsg (fCall (gc1 (listF false)) (fCons (fVar 3) (fNil))) (gNm 12)) (sSeq (sFor (fSeq (fVar 11)) (gNm 14) (b_law_1)) (sAsg (fUn (fVar 12) (isNonF true)) (gNm 13))))))) (sSkip)) (sSeq (sAsg (fIf (fTest (fUn (fVar 12) (isNonF false))) (fCall (gc1 (listF false)) (fCons (fVar 3) (fNil))) (fVar 12)) (gNm 19)) (sSeq (sIf (fTest (fBin (fCall (m_take) (fCons (fVar 1) (fCons (fC (.int 3)) (fNil)))) (fC (.int 0)) (g2 eqF))) (sAsg (fUn (fVar 19) (g1 (revF false))) (gNm 19)) (sSkip)) (sSeq (sAsg (fAndV (fVar 13) (fBin (fVar 19) (fVar 12) (g2 eqF))) (gNm 9)) (sIf (fTest (fBin (fCall (m_plain 4) (fCons (fLst false (fCons (fCall (m_judge_steps) (fCons (fCall (gc1 (listF false)) (fCons (fVar 3) (fNil))) (fCons (fCall (gc1 (listF false)) (fCons (fVar 11) (fNil))) (fCons (fCall (gc1 (listF false)) (fCons (fVar 19) (fNil))) (fNil))))) (fNil))) (fNil))) (fCall (m_plain 4) (fCons (fLst false (fCons (fVar 9) (fNil))) (fNil))) (g2 neF))) (sRet (fC (.bl false))) (sSkip)))))))))))))))))
def b_law : FS := sSeq (sAsg (fCall (m_deck) (fCons (fVar 0) (fCons (fC (.int 50)) (fCons (fC (.int 14)) (fNil))))) (gNm 1)) (sSeq (sFor (fRng1 (fCons (fC (.int 3)) (fNil))) (gNm 2) (b_law_5)) (sRet (fC (.bl true))))
def m_law : List Sl → Store → Out Sl := lift (pureOf 21 b_law)
theorem ok_law (T : Fx K mg fd__law_deck fd__law_take fd__law_word fd_standard_word fd__law_plain fd__law_made fd_stepped fd_knuth_steps fd__law_standard fd_judge_steps fd_knuth_step fd__law_told fd_law fi_InvalidWord) : FnOk pw w K mg base (L2.CX pw w) 5 (He.ga K "law") fd_law ["script"] (spG K 1 m_law) :=
  fn_pure T.d_law.F sc_law (b := b_law) (fun cdv A outer s H E hr => (dss_cons (ds_set 1 sc_law.nd (de_call (ok__law_deck T) (hr.mono (by decide)) rfl T.d__law_deck.m T.d__law_deck.F.kp T.d__law_deck.b (takes_of rfl rfl rfl rfl) (da_cons (de_var 0) (da_cons de_int (da_cons de_int da_nil))))) (dss_cons (ds_for (passes_of rfl) rfl (di_range1 rfl T.n_range (da_cons de_int da_nil)) (dg_name 2 sc_law.nd) (dss_cons (ds_set 3 sc_law.nd (de_call (ok__law_word T) (hr.mono (by decide)) rfl T.d__law_word.m T.d__law_word.F.kp T.d__law_word.b (takes_of rfl rfl rfl rfl) (da_cons (de_var 1) da_nil))) (dss_cons (ds_set 4 sc_law.nd (de_lst true da_nil)) (dss_cons (ds_for (passes_of rfl) rfl (di_seq (de_tup (da_cons de_str (da_cons de_str da_nil)))) (dg_name 5 sc_law.nd) (dss_one (ds_for (passes_of rfl) rfl (di_range2 rfl T.n_range (da_cons (de_un un_neg und_neg de_int) (da_cons (de_bin opr_add (opd_add false) (de_cb clr_len cld_len rfl T.n_len (by decide +kernel) (da_cons (de_var 3) da_nil)) de_int) da_nil))) (dg_name 6 sc_law.nd) (dss_cons (ds_set 7 sc_law.nd (de_call (ok__law_made T) (hr.mono (by decide)) rfl T.d__law_made.m T.d__law_made.F.kp T.d__law_made.b (takes_of rfl rfl rfl rfl) (da_cons (de_var 3) (da_cons (de_tup (da_cons (de_var 5) (da_cons (de_var 6) da_nil))) da_nil)))) (dss_cons (ds_set 8 sc_law.nd (de_ct call_list_of (cld_list false) rfl T.n_list (by decide +kernel) (da_cons (de_var 3) da_nil))) (dss_cons (ds_set 9 sc_law.nd (de_if (dt_isN (de_var 7)) (de_tup (da_cons de_str (da_cons de_str da_nil))) (de_var 7))) (dss_cons (ds_if (dt_w (dw_or (dt_cmp (op_neD hr.units) opd_ne (nomark _) (de_call (ok__law_plain T 4) (hr.mono (by decide)) rfl T.d__law_plain.m T.d__law_plain.F.kp T.d__law_plain.b (takes_of rfl rfl rfl rfl) (da_cons (de_call (ok__law_told T) (hr.mono (by decide)) rfl T.d__law_told.m T.d__law_told.F.kp T.d__law_told.b (takes_of rfl rfl rfl rfl) (da_cons (de_var 8) (da_cons (de_tup (da_cons (de_var 5) (da_cons (de_var 6) da_nil))) da_nil))) da_nil)) (de_call (ok__law_plain T 4) (hr.mono (by decide)) rfl T.d__law_plain.m T.d__law_plain.F.kp T.d__law_plain.b (takes_of rfl rfl rfl rfl) (da_cons (de_var 9) da_nil))) (dw_or1 (dt_cmp (op_neD hr.units) opd_ne (nomark _) (de_var 8) (de_var 3))))) (dss_one (ds_ret de_bl)) dss_nil) (dss_one (ds_if (dt_notN (de_var 7)) (dss_cons (ds_expr (de_lm PySem.F.slot_list_append PySem.F.type_list_append mt_append mtd_append (de_var 4) (da_cons (de_tup (da_cons (de_var 5) (da_cons (de_var 6) da_nil))) da_nil))) (dss_one (ds_if (dt_cmp (op_neD hr.units) opd_ne (nomark _) (de_call (ok__law_told T) (hr.mono (by decide)) rfl T.d__law_told.m T.d__law_told.F.kp T.d__law_told.b (takes_of rfl rfl rfl rfl) (da_cons (de_var 7) (da_cons (de_tup (da_cons (de_var 5) (da_cons (de_var 6) da_nil))) da_nil))) (de_var 3)) (dss_one (ds_ret de_bl)) dss_nil))) dss_nil))))))))) (dss_ghost (ghost_freeze 4) (dss_cons (ds_if (dt_cmp (op_neD hr.units) opd_ne (nomark _) (de_call (ok__law_plain T 4) (hr.mono (by decide)) rfl T.d__law_plain.m T.d__law_plain.F.kp T.d__law_plain.b (takes_of rfl rfl rfl rfl) (da_cons (de_call (ok_knuth_steps T) (hr.mono (by decide)) rfl T.d_knuth_steps.m T.d_knuth_steps.F.kp T.d_knuth_steps.b (takes_of rfl rfl rfl rfl) (da_cons (de_ct call_list_of (cld_list false) rfl T.n_list (by decide +kernel) (da_cons (de_var 3) da_nil)) da_nil)) da_nil)) (de_call (ok__law_plain T 4) (hr.mono (by decide)) rfl T.d__law_plain.m T.d__law_plain.F.kp T.d__law_plain.b (takes_of rfl rfl rfl rfl) (da_cons (de_var 4) da_nil))) (dss_one (ds_ret de_bl)) dss_nil) (dss_cons (ds_set 10 sc_law.nd (de_call (ok_standard_word T) (hr.mono (by decide)) rfl T.d_standard_word.m T.d_standard_word.F.kp T.d_standard_word.b (takes_of rfl rfl rfl rfl) (da_cons (de_ct call_list_of (cld_list false) rfl T.n_list (by decide +kernel) (da_cons (de_var 3) da_nil)) da_nil))) (dss_cons (ds_if (dt_w (dw_or (dt_cmp (op_neD hr.units) opd_ne (nomark _) (de_call (ok__law_plain T 4) (hr.mono (by decide)) rfl T.d__law_plain.m T.d__law_plain.F.kp T.d__law_plain.b (takes_of rfl rfl rfl rfl) (da_cons (de_var 10) da_nil)) (de_call (ok__law_plain T 4) (hr.mono (by decide)) rfl T.d__law_plain.m T.d__law_plain.F.kp T.d__law_plain.b (takes_of rfl rfl rfl rfl) (da_cons (de_call (ok__law_standard T) (hr.mono (by decide)) rfl T.d__law_standard.m T.d__law_standard.F.kp T.d__law_standard.b (takes_of rfl rfl rfl rfl) (da_cons (de_var 3) da_nil)) da_nil))) (dw_or1 (dt_cmp (op_neD hr.units) opd_ne (nomark _) (de_call (ok_knuth_steps T) (hr.mono (by decide)) rfl T.d_knuth_steps.m T.d_knuth_steps.F.kp T.d_knuth_steps.b (takes_of rfl rfl rfl rfl) (da_cons (de_ct call_list_of (cld_list false) rfl T.n_list (by decide +kernel) (da_cons (de_var 10) da_nil)) da_nil)) (de_var 4))))) (dss_one (ds_ret de_bl)) dss_nil) (dss_cons (ds_set 11 sc_law.nd (de_lst true da_nil)) (dss_cons (ds_set 12 sc_law.nd (de_ct call_list_of (cld_list false) rfl T.n_list (by decide +kernel) (da_cons (de_var 3) da_nil))) (dss_cons (ds_set 13 sc_law.nd de_bl) (dss_cons (ds_for (passes_of rfl) rfl (di_range1 rfl T.n_range (da_cons (de_call (ok__law_take T) (hr.mono (by decide)) rfl T.d__law_take.m T.d__law_take.F.kp T.d__law_take.b (takes_of rfl rfl rfl rfl) (da_cons (de_var 1) (da_cons de_int da_nil))) da_nil)) (dg_name 14 sc_law.nd) (dss_cons (ds_setLc false 15 (own := [("one", 20)]) rfl sc_law.nd rfl (di_seq (de_bin opr_add (opd_add false) (de_lc false (own := [("at", 18)]) rfl sc_law.nd (di_range1 rfl T.n_range (da_cons de_int da_nil)) (blkOk_by (by kernel_rfl)) (fun _ _ _ _ _ => (pct_nm 18 sc_law.nd rfl (by first | exact Or.inl rfl | exact Or.inr rfl) (by first | exact .inl rfl | exact .inr rfl))) (fun _ _ _ _ _ => dts_nil) (fun _ _ _ _ _ => (de_tup (da_cons de_str (da_cons (de_var 18) da_nil))))) (de_lc false (own := [("at", 18)]) rfl sc_law.nd (di_range1 rfl T.n_range (da_cons de_int da_nil)) (blkOk_by (by kernel_rfl)) (fun _ _ _ _ _ => (pct_nm 18 sc_law.nd rfl (by first | exact Or.inl rfl | exact Or.inr rfl) (by first | exact .inl rfl | exact .inr rfl))) (fun _ _ _ _ _ => dts_nil) (fun _ _ _ _ _ => (de_tup (da_cons de_str (da_cons (de_var 18) da_nil))))))) (blkOk_by (by kernel_rfl)) (fun _ _ _ _ _ => (pct_nm 20 sc_law.nd rfl (by first | exact Or.inl rfl | exact Or.inr rfl) (by first | exact .inl rfl | exact .inr rfl))) (fun _ _ _ _ _ => dts_nil) (fun _ _ _ _ _ => (de_var 20))) (dss_cons (ds_setLc false 16 (own := [("one", 20)]) rfl sc_law.nd rfl (di_seq (de_var 15)) (blkOk_by (by kernel_rfl)) (fun _ _ _ _ _ => (pct_nm 20 sc_law.nd rfl (by first | exact Or.inl rfl | exact Or.inr rfl) (by first | exact .inl rfl | exact .inr rfl))) (fun _ _ _ _ _ => (dts_one (dt_notN (de_call (ok__law_made T) (hr.mono (by decide)) rfl T.d__law_made.m T.d__law_made.F.kp T.d__law_made.b takes0 (da_cons (de_var 12) (da_cons (de_var 20) da_nil)))))) (fun _ _ _ _ _ => (de_var 20))) (dss_one (ds_if (dt_cmp op_gt (opd_ord _) (nomark _) (de_cb clr_len cld_len rfl T.n_len (by decide +kernel) (da_cons (de_var 16) da_nil)) de_int) (dss_cons (ds_expr (de_lm PySem.F.slot_list_append PySem.F.type_list_append mt_append mtd_append (de_var 11) (da_cons (de_ix (de_var 16) (de_call (ok__law_take T) (hr.mono (by decide)) rfl T.d__law_take.m T.d__law_take.F.kp T.d__law_take.b (takes_of rfl rfl rfl rfl) (da_cons (de_var 1) (da_cons (de_cb clr_len cld_len rfl T.n_len (by decide +kernel) (da_cons (de_var 16) da_nil)) da_nil)))) da_nil))) (dss_one (ds_set 12 sc_law.nd (de_call (ok__law_made T) (hr.mono (by decide)) rfl T.d__law_made.m T.d__law_made.F.kp T.d__law_made.b (takes_of rfl rfl rfl rfl) (da_cons (de_var 12) (da_cons (de_ix (de_var 11) (de_un un_neg und_neg de_int)) da_nil)))))) dss_nil))))) (dss_ghost (ghost_freeze 11) (dss_cons (ds_if (dt_cmp (op_eqD hr.units) opd_eq (nomark _) (de_call (ok__law_take T) (hr.mono (by decide)) rfl T.d__law_take.m T.d__law_take.F.kp T.d__law_take.b (takes_of rfl rfl rfl rfl) (da_cons (de_var 1) (da_cons de_int da_nil))) de_int) (dss_cons (ds_set 17 sc_law.nd (de_tup (da_cons de_str (da_cons (de_call (ok__law_take T) (hr.mono (by decide)) rfl T.d__law_take.m T.d__law_take.F.kp T.d__law_take.b (takes_of rfl rfl rfl rfl) (da_cons (de_var 1) (da_cons de_int da_nil))) da_nil)))) (dss_cons (ds_set 18 sc_law.nd (de_call (ok__law_take T) (hr.mono (by decide)) rfl T.d__law_take.m T.d__law_take.F.kp T.d__law_take.b (takes_of rfl rfl rfl rfl) (da_cons (de_var 1) (da_cons (de_bin opr_add (opd_add false) (de_cb clr_len cld_len rfl T.n_len (by decide +kernel) (da_cons (de_var 11) da_nil)) de_int) da_nil)))) (dss_cons (ds_set 11 sc_law.nd (de_bin opr_add (opd_add false) (de_bin opr_add (opd_add false) (de_sl false (de_var 11) do_none (do_some (de_var 18))) (de_lst false (da_cons (de_var 17) da_nil))) (de_sl false (de_var 11) (do_some (de_var 18)) do_none))) (dss_cons (ds_set 12 sc_law.nd (de_ct call_list_of (cld_list false) rfl T.n_list (by decide +kernel) (da_cons (de_var 3) da_nil))) (dss_cons (ds_for (passes_of rfl) rfl (di_seq (de_var 11)) (dg_name 14 sc_law.nd) (dss_one (ds_set 12 sc_law.nd (de_if (dt_notN (de_var 12)) (de_call (ok__law_made T) (hr.mono (by decide)) rfl T.d__law_made.m T.d__law_made.F.kp T.d__law_made.b (takes_of rfl rfl rfl rfl) (da_cons (de_var 12) (da_cons (de_var 14) da_nil))) de_non)))) (dss_one (ds_set 13 sc_law.nd (de_notN (de_var 12))))))))) dss_nil) (dss_cons (ds_set 19 sc_law.nd (de_if (dt_isN (de_var 12)) (de_ct call_list_of (cld_list false) rfl T.n_list (by decide +kernel) (da_cons (de_var 3) da_nil)) (de_var 12))) (dss_cons (ds_if (dt_cmp (op_eqD hr.units) opd_eq (nomark _) (de_call (ok__law_take T) (hr.mono (by decide)) rfl T.d__law_take.m T.d__law_take.F.kp T.d__law_take.b (takes_of rfl rfl rfl rfl) (da_cons (de_var 1) (da_cons de_int da_nil))) de_int) (dss_one (ds_set 19 sc_law.nd (de_rev false (de_var 19)))) dss_nil) (dss_cons (ds_set 9 sc_law.nd (de_and (de_var 13) (de_one (de_cmp (op_eqD hr.units) opd_eq (nomark _) (de_var 19) (de_var 12))))) (dss_one (ds_if (dt_cmp (op_neD hr.units) opd_ne (nomark _) (de_call (ok__law_plain T 4) (hr.mono (by decide)) rfl T.d__law_plain.m T.d__law_plain.F.kp T.d__law_plain.b (takes_of rfl rfl rfl rfl) (da_cons (de_lst false (da_cons (de_call (ok_judge_steps T) (hr.mono (by decide)) rfl T.d_judge_steps.m T.d_judge_steps.F.kp T.d_judge_steps.b (takes_of rfl rfl rfl rfl) (da_cons (de_ct call_list_of (cld_list false) rfl T.n_list (by decide +kernel) (da_cons (de_var 3) da_nil)) (da_cons (de_ct call_list_of (cld_list false) rfl T.n_list (by decide +kernel) (da_cons (de_var 11) da_nil)) (da_cons (de_ct call_list_of (cld_list false) rfl T.n_list (by decide +kernel) (da_cons (de_var 19) da_nil)) da_nil)))) da_nil)) da_nil)) (de_call (ok__law_plain T 4) (hr.mono (by decide)) rfl T.d__law_plain.m T.d__law_plain.F.kp T.d__law_plain.b (takes_of rfl rfl rfl rfl) (da_cons (de_lst false (da_cons (de_var 9) da_nil)) da_nil))) (dss_one (ds_ret de_bl)) dss_nil))))))))))))))))))) (dss_one (ds_ret de_bl)))))
end
/-! ### the head -/
def hk : HK where
  fa := [.glo "_law_deck", .glo "_law_take", .glo "_law_word", .glo "standard_word", .glo "_law_plain", .glo "_law_made", .glo "stepped", .glo "knuth_steps", .glo "_law_standard", .glo "judge_steps", .glo "knuth_step", .glo "_law_told", .glo "law", .free "abs", .free "bool", .free "enumerate", .free "int", .free "isinstance", .free "len", .free "list", .free "max", .free "min", .free "range", .free "sorted", .free "str", .free "tuple", .glo "InvalidWord", .glo "TableError"]
  fn := [⟨("_law_deck", none), "_law_deck", "_law_deck", defArgs s__law_deck, defBody s__law_deck, defScope s__law_deck, [], []⟩, ⟨("_law_take", none), "_law_take", "_law_take", defArgs s__law_take, defBody s__law_take, defScope s__law_take, [], []⟩, ⟨("_law_word", none), "_law_word", "_law_word", defArgs s__law_word, defBody s__law_word, defScope s__law_word, [], []⟩, ⟨("standard_word", none), "standard_word", "standard_word", defArgs s_standard_word, defBody s_standard_word, defScope s_standard_word, [], []⟩, ⟨("_law_plain", none), "_law_plain", "_law_plain", defArgs s__law_plain, defBody s__law_plain, defScope s__law_plain, [], []⟩, ⟨("_law_made", none), "_law_made", "_law_made", defArgs s__law_made, defBody s__law_made, defScope s__law_made, [], []⟩, ⟨("stepped", none), "stepped", "stepped", defArgs s_stepped, defBody s_stepped, defScope s_stepped, [], []⟩, ⟨("knuth_steps", none), "knuth_steps", "knuth_steps", defArgs s_knuth_steps, defBody s_knuth_steps, defScope s_knuth_steps, [], []⟩, ⟨("_law_standard", none), "_law_standard", "_law_standard", defArgs s__law_standard, defBody s__law_standard, defScope s__law_standard, [], []⟩, ⟨("judge_steps", none), "judge_steps", "judge_steps", defArgs s_judge_steps, defBody s_judge_steps, defScope s_judge_steps, [], []⟩, ⟨("knuth_step", none), "knuth_step", "knuth_step", defArgs s_knuth_step, defBody s_knuth_step, defScope s_knuth_step, [], []⟩, ⟨("_law_told", none), "_law_told", "_law_told", defArgs s__law_told, defBody s__law_told, defScope s__law_told, [], []⟩, ⟨("law", none), "law", "law", defArgs s_law, defBody s_law, defScope s_law, [], []⟩, ⟨("InvalidWord", some "__init__"), "__init__", "InvalidWord.__init__", defArgs s_InvalidWord, defBody s_InvalidWord, defScope s_InvalidWord, [], []⟩]
  ex := fun K => (exCB K "InvalidWord" && exBB K "TableError") && ((decide (PySem.W.exmOne K (.ref (He.ga K "InvalidWord")) (.ref (He.ga K "InvalidWord")) = some true)) && (true))
theorem Fx_of {K : PySem.W.Frag} {h : Heap} {mg : Str → Option Value} (X : K.In h) (G : h.Ns mainGlobals mg) (c : SaysC hk K) : ∃ fd__law_deck fd__law_take fd__law_word fd_standard_word fd__law_plain fd__law_made fd_stepped fd_knuth_steps fd__law_standard fd_judge_steps fd_knuth_step fd__law_told fd_law fi_InvalidWord, Fx K mg fd__law_deck fd__law_take fd__law_word fd_standard_word fd__law_plain fd__law_made fd_stepped fd_knuth_steps fd__law_standard fd_judge_steps fd_knuth_step fd__law_told fd_law fi_InvalidWord := by
  obtain ⟨c1, c2⟩ := c
  obtain ⟨fd__law_deck, F__law_deck⟩ := c1.def_ 0 rfl
  obtain ⟨fd__law_take, F__law_take⟩ := c1.def_ 1 rfl
  obtain ⟨fd__law_word, F__law_word⟩ := c1.def_ 2 rfl
  obtain ⟨fd_standard_word, F_standard_word⟩ := c1.def_ 3 rfl
  obtain ⟨fd__law_plain, F__law_plain⟩ := c1.def_ 4 rfl
  obtain ⟨fd__law_made, F__law_made⟩ := c1.def_ 5 rfl
  obtain ⟨fd_stepped, F_stepped⟩ := c1.def_ 6 rfl
  obtain ⟨fd_knuth_steps, F_knuth_steps⟩ := c1.def_ 7 rfl
  obtain ⟨fd__law_standard, F__law_standard⟩ := c1.def_ 8 rfl
  obtain ⟨fd_judge_steps, F_judge_steps⟩ := c1.def_ 9 rfl
  obtain ⟨fd_knuth_step, F_knuth_step⟩ := c1.def_ 10 rfl
  obtain ⟨fd__law_told, F__law_told⟩ := c1.def_ 11 rfl
  obtain ⟨fd_law, F_law⟩ := c1.def_ 12 rfl
  obtain ⟨fi_InvalidWord, F_InvalidWord⟩ := c1.def_ 13 rfl
  obtain ⟨k0, c2⟩ := Bool.and_eq_true_iff.mp c2
  obtain ⟨k1, c2⟩ := Bool.and_eq_true_iff.mp c2
  exact ⟨_, _, _, _, _, _, _, _, _, _, _, _, _, _, { d__law_deck := ⟨F__law_deck, He.glo_ok X G (c1.fact 0 (f := .glo "_law_deck") rfl), F__law_deck.bindsN (fun _ _ _ _ _ _ us hl => (match us, hl with | [_, _, _], _ => rfl))⟩, d__law_take := ⟨F__law_take, He.glo_ok X G (c1.fact 1 (f := .glo "_law_take") rfl), F__law_take.bindsN (fun _ _ _ _ _ _ us hl => (match us, hl with | [_, _], _ => rfl))⟩, d__law_word := ⟨F__law_word, He.glo_ok X G (c1.fact 2 (f := .glo "_law_word") rfl), F__law_word.bindsN (fun _ _ _ _ _ _ us hl => (match us, hl with | [_], _ => rfl))⟩, d_standard_word := ⟨F_standard_word, He.glo_ok X G (c1.fact 3 (f := .glo "standard_word") rfl), F_standard_word.bindsN (fun _ _ _ _ _ _ us hl => (match us, hl with | [_], _ => rfl))⟩, d__law_plain := ⟨F__law_plain, He.glo_ok X G (c1.fact 4 (f := .glo "_law_plain") rfl), F__law_plain.bindsN (fun _ _ _ _ _ _ us hl => (match us, hl with | [_], _ => rfl))⟩, d__law_made := ⟨F__law_made, He.glo_ok X G (c1.fact 5 (f := .glo "_law_made") rfl), F__law_made.bindsN (fun _ _ _ _ _ _ us hl => (match us, hl with | [_, _], _ => rfl))⟩, d_stepped := ⟨F_stepped, He.glo_ok X G (c1.fact 6 (f := .glo "stepped") rfl), F_stepped.bindsN (fun _ _ _ _ _ _ us hl => (match us, hl with | [_, _], _ => rfl))⟩, d_knuth_steps := ⟨F_knuth_steps, He.glo_ok X G (c1.fact 7 (f := .glo "knuth_steps") rfl), F_knuth_steps.bindsN (fun _ _ _ _ _ _ us hl => (match us, hl with | [_], _ => rfl))⟩, d__law_standard := ⟨F__law_standard, He.glo_ok X G (c1.fact 8 (f := .glo "_law_standard") rfl), F__law_standard.bindsN (fun _ _ _ _ _ _ us hl => (match us, hl with | [_], _ => rfl))⟩, d_judge_steps := ⟨F_judge_steps, He.glo_ok X G (c1.fact 9 (f := .glo "judge_steps") rfl), F_judge_steps.bindsN (fun _ _ _ _ _ _ us hl => (match us, hl with | [_, _, _], _ => rfl))⟩, d_knuth_step := ⟨F_knuth_step, He.glo_ok X G (c1.fact 10 (f := .glo "knuth_step") rfl), F_knuth_step.bindsN (fun _ _ _ _ _ _ us hl => (match us, hl with | [_, _], _ => rfl))⟩, d__law_told := ⟨F__law_told, He.glo_ok X G (c1.fact 11 (f := .glo "_law_told") rfl), F__law_told.bindsN (fun _ _ _ _ _ _ us hl => (match us, hl with | [_, _], _ => rfl))⟩, d_law := ⟨F_law, He.glo_ok X G (c1.fact 12 (f := .glo "law") rfl), F_law.bindsN (fun _ _ _ _ _ _ us hl => (match us, hl with | [_], _ => rfl))⟩, n_abs := He.free_ok X G (c1.fact 13 (f := .free "abs") rfl), n_bool := He.free_ok X G (c1.fact 14 (f := .free "bool") rfl), n_enumerate := He.free_ok X G (c1.fact 15 (f := .free "enumerate") rfl), n_int := He.free_ok X G (c1.fact 16 (f := .free "int") rfl), n_isinstance := He.free_ok X G (c1.fact 17 (f := .free "isinstance") rfl), n_len := He.free_ok X G (c1.fact 18 (f := .free "len") rfl), n_list := He.free_ok X G (c1.fact 19 (f := .free "list") rfl), n_max := He.free_ok X G (c1.fact 20 (f := .free "max") rfl), n_min := He.free_ok X G (c1.fact 21 (f := .free "min") rfl), n_range := He.free_ok X G (c1.fact 22 (f := .free "range") rfl), n_sorted := He.free_ok X G (c1.fact 23 (f := .free "sorted") rfl), n_str := He.free_ok X G (c1.fact 24 (f := .free "str") rfl), n_tuple := He.free_ok X G (c1.fact 25 (f := .free "tuple") rfl), x_InvalidWord := exCB_ok (Bool.and_eq_true_iff.mp k0).1, e_InvalidWord := exBB_ok (Bool.and_eq_true_iff.mp k0).2, m_InvalidWord := He.glo_ok X G (c1.fact 26 (f := .glo "InvalidWord") rfl), i_InvalidWord := F_InvalidWord, b_InvalidWord := F_InvalidWord.bindsN (fun _ _ _ _ _ _ us hl => (match us, hl with | [_, _], _ => rfl)), m_TableError := He.glo_ok X G (c1.fact 27 (f := .glo "TableError") rfl), q_InvalidWord_InvalidWord := of_decide_eq_true k1 }⟩
abbrev R : PySem.W.OpenRow := PySem.W.OpenLaw.row PySem.Challenge.rw_tablework_k13_knuth_steps
abbrev hkk : PySem.W.Hook := hookC 5 hk
def ob (s : PySem.W.SharedT) : AlC := obsC 5 hk (HandSHeadRun.getT s)
theorem ob_eq (s : PySem.W.SharedT) : ob s = hkk.obs s.abs := obsC_eq (HandSHeadRun.getT_eq s)
theorem run (w : World) : HandSHeadRun.RunEq R (PySem.W.view R.prog [17]) hkk ob 3000 ["TableError", "InvalidWord", "standard_word", "stepped", "knuth_step", "knuth_steps", "judge_steps", "_law_deck", "_law_take", "_law_plain", "_law_word", "_law_made", "_law_told", "_law_standard"] w := by
  intro os
  kernel_rfl
end k13

namespace k13
/-! ### the plain side -/
def cF (a b c : Int) : Bool := decide (min a b ≤ c ∧ c < max a b)
def cL (a b c : Int) : Bool := decide (min b c < a ∧ a ≤ max b c)
def cnd (f : Bool) (a b c : Int) : Bool := if f then cF a b c else cL a b c
def sw (f : Bool) (a b c : Int) : List Int := if f then [b, a, c] else [a, c, b]
def mvN (f : Bool) (p : Nat) (w : List Int) : Option (List Int) := match w.drop p with
  | a :: b :: c :: r => if cnd f a b c then some (w.take p ++ sw f a b c ++ r) else none
  | _ => none
def mv (f : Bool) (p : Int) (w : List Int) : Option (List Int) := if p < 0 then none else mvN f p.toNat w
theorem cnd_sw (f : Bool) (a b c : Int) (h : cnd f a b c = true) : ∃ x y z, sw f a b c = [x, y, z] ∧ cnd f x y z = true ∧ sw f x y z = [a, b, c] := by
  cases f with
  | true =>
    refine ⟨b, a, c, rfl, ?_, rfl⟩
    simp only [cnd, cF, if_true] at h ⊢
    simp only [decide_eq_true_eq] at h ⊢
    omega
  | false =>
    refine ⟨a, c, b, rfl, ?_, rfl⟩
    simp only [cnd, cL] at h ⊢
    simp at h ⊢
    omega
theorem mvN_of {f : Bool} {p : Nat} {w u : List Int} (h : mvN f p w = some u) : ∃ q a b c r, w = q ++ a :: b :: c :: r ∧ q.length = p ∧ cnd f a b c = true ∧ u = q ++ sw f a b c ++ r := by
  unfold mvN at h
  split at h
  · rename_i a b c r e
    by_cases hc : cnd f a b c = true
    · rw [if_pos hc] at h
      cases h
      have hl : p ≤ w.length := by
        have := congrArg List.length e
        rw [List.length_drop] at this
        simp at this
        omega
      exact ⟨w.take p, a, b, c, r, by rw [← e, List.take_append_drop], by rw [List.length_take]; omega, hc, rfl⟩
    · rw [if_neg hc] at h; cases h
  · cases h
theorem mvN_at (f : Bool) (q r : List Int) (a b c : Int) : mvN f q.length (q ++ a :: b :: c :: r) = if cnd f a b c then some (q ++ sw f a b c ++ r) else none := by
  unfold mvN
  rw [List.drop_left, List.take_left]
/-- a step made twice -/
theorem mvN_back {f : Bool} {p : Nat} {w u : List Int} (h : mvN f p w = some u) : mvN f p u = some w := by
  obtain ⟨q, a, b, c, r, rfl, rfl, hc, rfl⟩ := mvN_of h
  obtain ⟨x, y, z, e1, e2, e3⟩ := cnd_sw f a b c hc
  rw [e1]
  have e : q ++ [x, y, z] ++ r = q ++ x :: y :: z :: r := by simp
  rw [e, mvN_at, if_pos e2, e3]
  simp
theorem mv_back {f : Bool} {p : Int} {w u : List Int} (h : mv f p w = some u) : mv f p u = some w := by
  unfold mv at h ⊢
  by_cases hp : p < 0
  · rw [if_pos hp] at h; cases h
  · rw [if_neg hp] at h ⊢; exact mvN_back h
theorem mvN_len {f : Bool} {p : Nat} {w u : List Int} (h : mvN f p w = some u) : u.length = w.length := by
  obtain ⟨q, a, b, c, r, rfl, rfl, hc, rfl⟩ := mvN_of h
  cases f <;> simp [sw] <;> omega
theorem mv_len {f : Bool} {p : Int} {w u : List Int} (h : mv f p w = some u) : u.length = w.length := by
  unfold mv at h
  by_cases hp : p < 0
  · rw [if_pos hp] at h; cases h
  · rw [if_neg hp] at h; exact mvN_len h
theorem mv_out {f : Bool} {p : Int} {w : List Int} (h : p < 0 ∨ (w.length : Int) < p + 3) : mv f p w = none := by
  unfold mv
  by_cases hp : p < 0
  · rw [if_pos hp]
  · rw [if_neg hp]
    cases q : mvN f p.toNat w with
    | none => rfl
    | some u =>
      obtain ⟨q, a, b, c, r, rfl, e, hc, rfl⟩ := mvN_of q
      simp at h
      omega

/-! ### ranks -/
def lx (p q : Int × Nat) : Bool := decide (p.1 < q.1 ∨ (p.1 = q.1 ∧ p.2 < q.2))
theorem lx_irr (p : Int × Nat) : lx p p = false := by unfold lx; simp
theorem lx_tr {p q r : Int × Nat} (h1 : lx p q = true) (h2 : lx q r = true) : lx p r = true := by
  unfold lx at *
  simp only [decide_eq_true_eq] at *
  omega
def rnk (L : List (Int × Nat)) (x : Int × Nat) : Nat := L.countP fun y => lx y x
theorem countP_lt {α : Type} {p q : α → Bool} : ∀ {l : List α} {x : α}, (∀ y, p y = true → q y = true) → x ∈ l → p x = false → q x = true → l.countP p < l.countP q
  | a :: l, x, h, hm, hp, hq => by
    rw [List.countP_cons, List.countP_cons]
    have mono : l.countP p ≤ l.countP q := List.countP_mono_left fun y _ => h y
    rcases List.mem_cons.mp hm with rfl | hm
    · simp only [hp, hq]
      simp
      omega
    · have := countP_lt h hm hp hq
      by_cases e : p a = true
      · rw [if_pos e, if_pos (h a e)]; omega
      · rw [if_neg e]; split <;> omega
theorem rnk_lt {L : List (Int × Nat)} {x y : Int × Nat} (hx : x ∈ L) (h : lx x y = true) : rnk L x < rnk L y := countP_lt (fun z hz => lx_tr hz h) hx (lx_irr x) h
theorem rnk_iff {L : List (Int × Nat)} {x y : Int × Nat} (hx : x ∈ L) (hy : y ∈ L) (ne : x ≠ y) : rnk L x < rnk L y ↔ lx x y = true := by
  constructor
  · intro h
    cases q : lx x y with
    | true => rfl
    | false =>
      have : lx y x = true := by
        unfold lx at q ⊢
        simp only [decide_eq_true_eq, decide_eq_false_iff_not] at q ⊢
        have : ¬ (x.1 = y.1 ∧ x.2 = y.2) := fun ⟨a, b⟩ => ne (Prod.ext a b)
        omega
      have := rnk_lt hy this
      omega
  · exact rnk_lt hx
/-- the pairs of a word -/
def prs (w : List Int) : List (Int × Nat) := w.zipIdx
theorem prs_get {w : List Int} {i : Nat} (h : i < w.length) : (prs w)[i]? = some (w[i], i) := by
  unfold prs
  rw [List.getElem?_zipIdx]
  simp [h]
theorem prs_mem {w : List Int} {i : Nat} (h : i < w.length) : (w[i], i) ∈ prs w := List.mem_of_getElem? (prs_get h)
theorem prs_len (w : List Int) : (prs w).length = w.length := by unfold prs; simp
def rk (w : List Int) (i : Nat) : Nat := match w[i]? with
  | some x => rnk (prs w) (x, i)
  | none => 0
def std (w : List Int) : List Int := (List.range w.length).map fun i => ((rk w i : Nat) : Int) + 1
theorem std_len (w : List Int) : (std w).length = w.length := by simp [std]
theorem std_get {w : List Int} {i : Nat} (h : i < w.length) : (std w)[i]? = some ((rnk (prs w) (w[i], i) : Nat) + 1) := by
  unfold std rk
  simp [h]
/-- standard words keep the order -/
theorem std_le {w : List Int} {i j : Nat} (hi : i < j) (hj : j < w.length) : (rnk (prs w) (w[i]'(by omega), i) < rnk (prs w) (w[j], j)) ↔ w[i]'(by omega) ≤ w[j] := by
  rw [rnk_iff (prs_mem (by omega)) (prs_mem hj) (fun e => by have := congrArg Prod.snd e; simp at this; omega)]
  unfold lx
  simp only [decide_eq_true_eq]
  omega
theorem std_ge {w : List Int} {i j : Nat} (hi : i < j) (hj : j < w.length) : (rnk (prs w) (w[j], j) < rnk (prs w) (w[i]'(by omega), i)) ↔ w[j] < w[i]'(by omega) := by
  rw [rnk_iff (prs_mem hj) (prs_mem (by omega)) (fun e => by have := congrArg Prod.snd e; simp at this; omega)]
  unfold lx
  simp only [decide_eq_true_eq]
  omega
theorem drop3 {w : List Int} {p : Nat} (h : p + 2 < w.length) : w.drop p = w[p] :: w[p + 1] :: w[p + 2] :: w.drop (p + 3) := by
  rw [List.drop_eq_getElem_cons (by omega), List.drop_eq_getElem_cons (by omega), List.drop_eq_getElem_cons (by omega)]
theorem mvN_some (f : Bool) {p : Nat} {w : List Int} (h : p + 2 < w.length) : (mvN f p w).isSome = cnd f (w[p]) (w[p + 1]) (w[p + 2]) := by
  unfold mvN
  rw [drop3 h]
  simp only
  split <;> simp_all
theorem std_step (f : Bool) (p : Int) (w : List Int) : (mv f p (std w)).isSome = (mv f p w).isSome := by
  by_cases ho : p < 0 ∨ (w.length : Int) < p + 3
  · rw [mv_out ho, mv_out (by rw [std_len]; exact ho)]
  · have hp : ¬ p < 0 := fun z => ho (.inl z)
    unfold mv
    rw [if_neg hp, if_neg hp]
    obtain ⟨n, rfl⟩ : ∃ n : Nat, p = n := ⟨p.toNat, by omega⟩
    simp only [Int.toNat_natCast]
    have hn : n + 2 < w.length := by omega
    have hs : n + 2 < (std w).length := by rw [std_len]; exact hn
    rw [mvN_some f hn, mvN_some f hs]
    have g : ∀ i (h : i < w.length), (std w)[i]'(by rw [std_len]; exact h) = ((rnk (prs w) (w[i], i) : Nat) : Int) + 1 := fun i h => by
      have := std_get h
      rw [List.getElem?_eq_getElem (by rw [std_len]; exact h)] at this
      exact Option.some.inj this
    rw [g n (by omega), g (n + 1) (by omega), g (n + 2) (by omega)]
    have a1 := std_le (w := w) (i := n) (j := n + 1) (by omega) (by omega)
    have a2 := std_le (w := w) (i := n) (j := n + 2) (by omega) (by omega)
    have a3 := std_le (w := w) (i := n + 1) (j := n + 2) (by omega) (by omega)
    have b1 := std_ge (w := w) (i := n) (j := n + 1) (by omega) (by omega)
    have b2 := std_ge (w := w) (i := n) (j := n + 2) (by omega) (by omega)
    have b3 := std_ge (w := w) (i := n + 1) (j := n + 2) (by omega) (by omega)
    generalize rnk (prs w) (w[n], n) = ra at *
    generalize rnk (prs w) (w[n + 1], n + 1) = rb at *
    generalize rnk (prs w) (w[n + 2], n + 2) = rc at *
    generalize w[n] = a at *
    generalize w[n + 1] = b at *
    generalize w[n + 2] = c at *
    cases f
    · show cL _ _ _ = cL _ _ _
      exact decide_eq_decide.mpr (by constructor <;> intro h <;> omega)
    · show cF _ _ _ = cF _ _ _
      exact decide_eq_decide.mpr (by constructor <;> intro h <;> omega)

/-! ### the law's count, and the sorted pairs -/
theorem rnk_count (w : List Int) (x : Int) : ∀ (l : List Int) (k i : Nat), (l.zipIdx k).countP (fun y => lx y (x, i)) = l.countP (fun y => decide (y < x)) + (l.take (i - k)).countP (fun y => decide (y = x))
  | [], k, i => by simp
  | a :: l, k, i => by
    rw [List.zipIdx_cons, List.countP_cons, List.countP_cons, rnk_count w x l (k + 1) i]
    by_cases hk : k < i
    · have e : i - k = (i - (k + 1)) + 1 := by omega
      rw [e, List.take_succ_cons, List.countP_cons]
      by_cases h1 : a < x
      · have : ¬ a = x := by omega
        simp [lx, h1, this]
        omega
      · by_cases h2 : a = x
        · subst h2
          simp [lx, hk]
          omega
        · simp [lx, h1, h2]
    · have e : i - k = 0 := by omega
      have e2 : i - (k + 1) = 0 := by omega
      rw [e, e2]
      by_cases h1 : a < x
      · simp [lx, h1]
      · have : ¬ (a = x ∧ k < i) := fun z => hk z.2
        simp [lx, h1, this]
theorem rk_count {w : List Int} {i : Nat} (h : i < w.length) : rnk (prs w) (w[i], i) = w.countP (fun y => decide (y < w[i])) + (w.take i).countP (fun y => decide (y = w[i])) := by
  unfold rnk prs
  rw [rnk_count w (w[i]) w 0 i]
  simp
theorem sorted_rank {S L : List (Int × Nat)} (hp : S.Perm L) (hs : S.Pairwise fun a b => lx a b = true) {n : Nat} {x : Int × Nat} (h : S[n]? = some x) : rnk L x = n := by
  have e : rnk L x = rnk S x := (hp.countP_eq _).symm
  rw [e]
  clear e hp L
  induction S generalizing n with
  | nil => simp at h
  | cons a S ih =>
    rw [List.pairwise_cons] at hs
    unfold rnk
    rw [List.countP_cons]
    cases n with
    | zero =>
      simp at h
      subst h
      rw [lx_irr]
      have : S.countP (fun y => lx y a) = 0 := List.countP_eq_zero.mpr fun y hy z => by
        have := lx_tr (hs.1 y hy) z
        rw [lx_irr] at this; cases this
      simp [this]
    | succ n =>
      have h' : S[n]? = some x := by simpa using h
      have := ih hs.2 h'
      unfold rnk at this
      rw [this, if_pos (hs.1 x (List.mem_of_getElem? h'))]
end k13

namespace k13
open PySem PySem.Spec PyProof.Rows L2 DL
abbrev Wd (w : List Int) : D := .lst (w.map .int)
def kn (f : Bool) : Str := if f then "first" else "last"
def stp (f : Bool) (p : Int) : D := .tup [.str (kn f), .int p]
def oD : Option (List Int) → D
  | some u => Wd u
  | none => .non
theorem lay_first : PyData.canLay0 (.str "first") = true := by decide +kernel
theorem lay_last : PyData.canLay0 (.str "last") = true := by decide +kernel
theorem lay_step : PyData.canLay0 (.str "step") = true := by decide +kernel
theorem lay_invalid : PyData.canLay0 (.str "invalid") = true := by decide +kernel
theorem lay_kn (f : Bool) : PyData.canLay0 (.str (kn f)) = true := by cases f <;> decide +kernel
theorem kn_first (f : Bool) : (kn f == ("first" : Str)) = f := by cases f <;> decide +kernel
theorem kn_last (f : Bool) : (kn f == ("last" : Str)) = !f := by cases f <;> decide +kernel
theorem imin (i j : Int) : (if j < i then j else i) = min i j := by omega
theorem imax (i j : Int) : (if i < j then j else i) = max i j := by omega
theorem mvN_eq {f : Bool} {n : Nat} {w : List Int} (h : n + 2 < w.length) : mvN f n w = if cnd f w[n] w[n + 1] w[n + 2] then some (w.take n ++ sw f w[n] w[n + 1] w[n + 2] ++ w.drop (n + 3)) else none := by
  unfold mvN
  rw [drop3 h]
theorem made_eq (f : Bool) (p : Int) (w : List Int) (hw : w.length ≤ 1000) (μ : Store) : m__law_made [.v (Wd w), .v (stp f p)] μ = .ok (.v (oD (mv f p w))) μ := by
  by_cases hp : p < 0
  · rw [mv_out (.inl hp)]
    simp [m__law_made, b__law_made, bind_ok, bind_exc, st_ok, st_exc, seq_nx, seq_rt, seq_bk, seq_ct, seq_exc, turn_nx, turn_ct, turn_bk, turn_rt, turn_exc, mk_true, mk_false, runS_rt, runS_nx, runS_exc, forL_nil, get_off, get_off0, set_off, set_off0, take_len,  sSeq, sIf, sSkip, sRet, sDrop, sAsg, sFor, sGhost, tFreeze, fTest, fBin, fUn, fCall, fCons, fNil, fVar, fC, fAnd, fOr, fNot, fIf, fLst, fTup, fChain, fAndV, fOrV, gNot, allV, g1, g2, gc1, gc2, Sl.get, okV, gNm, gUnp, gUnpL, gsNil, gsCons,  fSeq, fRng1, fRng2, fEnum, fComp, fYes, CT.put, setAll, wipeE, fMeth, isLst, lstAt, appendG, extendG, popG, popAtG, reverseG, countG, fNo, fPart, fSl, slF, revF, addF, subF, mulF, fdivF, modF, powF, ordF, negF, isNonF, isF, absF, max2F, min2F, int1F, lenF, listF, tupleF, sumF, maxF, minF, ixF,  gSubF, setL, sPar, sAug, runC, lift, pureOf, getAll, allVB, D.nol, D.nolL, startE, isiF, tyName, clsL, clsNm, isiB, eqF_int, neF_int, eqF_ints, neF_ints, eqF_intsT, neF_intsT, stp, hp, oD]
  · by_cases hq : (w.length : Int) < p + 3
    · rw [mv_out (.inr hq)]
      simp [m__law_made, b__law_made, bind_ok, bind_exc, st_ok, st_exc, seq_nx, seq_rt, seq_bk, seq_ct, seq_exc, turn_nx, turn_ct, turn_bk, turn_rt, turn_exc, mk_true, mk_false, runS_rt, runS_nx, runS_exc, forL_nil, get_off, get_off0, set_off, set_off0, take_len,  sSeq, sIf, sSkip, sRet, sDrop, sAsg, sFor, sGhost, tFreeze, fTest, fBin, fUn, fCall, fCons, fNil, fVar, fC, fAnd, fOr, fNot, fIf, fLst, fTup, fChain, fAndV, fOrV, gNot, allV, g1, g2, gc1, gc2, Sl.get, okV, gNm, gUnp, gUnpL, gsNil, gsCons,  fSeq, fRng1, fRng2, fEnum, fComp, fYes, CT.put, setAll, wipeE, fMeth, isLst, lstAt, appendG, extendG, popG, popAtG, reverseG, countG, fNo, fPart, fSl, slF, revF, addF, subF, mulF, fdivF, modF, powF, ordF, negF, isNonF, isF, absF, max2F, min2F, int1F, lenF, listF, tupleF, sumF, maxF, minF, ixF,  gSubF, setL, sPar, sAug, runC, lift, pureOf, getAll, allVB, D.nol, D.nolL, startE, isiF, tyName, clsL, clsNm, isiB, eqF_int, neF_int, eqF_ints, neF_ints, eqF_intsT, neF_intsT, stp, hp, hq, oD]
    · obtain ⟨n, rfl⟩ : ∃ n : Nat, p = n := ⟨p.toNat, by omega⟩
      have hn : n + 2 < w.length := by omega
      have c1 : cutD (w.map .int) (some (n : Int)) (some ((n : Int) + 3)) = [.int w[n], .int w[n + 1], .int w[n + 2]] := by
        rw [cut_lh (i := (n : Int)) (j := (n : Int) + 3) (a := n) (b := n + 3) rfl (by omega) (by rw [List.length_map]; omega), ← List.map_drop, drop3 hn]
        have : n + 3 - n = 3 := by omega
        rw [this]
        rfl
      have c2 : cutD (w.map .int) none (some (n : Int)) = (w.map .int).take n := cut_hi rfl
      have c3 : cutD (w.map .int) (some ((n : Int) + 3)) none = (w.map .int).drop (n + 3) := cut_lo (k := n + 3) (by omega)
      have hm : mv f (n : Int) w = mvN f n w := by unfold mv; rw [if_neg hp, Int.toNat_natCast]
      have hlim : lim = 16777216 := rfl
      have l1 : min n w.length + 3 ≤ lim := by omega
      have l2 : min n w.length + 3 + (w.length - (n + 3)) ≤ lim := by omega
      rw [hm, mvN_eq hn]
      have e1 := eqF_str (μ := []) (lay_kn f) lay_first
      rw [kn_first] at e1
      simp only [m__law_made, b__law_made]
      generalize w[n] = a at *
      generalize w[n + 1] = b at *
      generalize w[n + 2] = c at *
      cases f
      · by_cases h1 : min b c < a <;> by_cases h2 : a ≤ max b c <;> simp [bind_ok, bind_exc, st_ok, st_exc, seq_nx, seq_rt, seq_bk, seq_ct, seq_exc, turn_nx, turn_ct, turn_bk, turn_rt, turn_exc, mk_true, mk_false, runS_rt, runS_nx, runS_exc, forL_nil, get_off, get_off0, set_off, set_off0, take_len,  sSeq, sIf, sSkip, sRet, sDrop, sAsg, sFor, sGhost, tFreeze, fTest, fBin, fUn, fCall, fCons, fNil, fVar, fC, fAnd, fOr, fNot, fIf, fLst, fTup, fChain, fAndV, fOrV, gNot, allV, g1, g2, gc1, gc2, Sl.get, okV, gNm, gUnp, gUnpL, gsNil, gsCons,  fSeq, fRng1, fRng2, fEnum, fComp, fYes, CT.put, setAll, wipeE, fMeth, isLst, lstAt, appendG, extendG, popG, popAtG, reverseG, countG, fNo, fPart, fSl, slF, revF, addF, subF, mulF, fdivF, modF, powF, ordF, negF, isNonF, isF, absF, max2F, min2F, int1F, lenF, listF, tupleF, sumF, maxF, minF, ixF,  gSubF, setL, sPar, sAug, runC, lift, pureOf, getAll, allVB, D.nol, D.nolL, startE, isiF, tyName, clsL, clsNm, isiB, eqF_int, neF_int, eqF_ints, neF_ints, eqF_intsT, neF_intsT, stp, hp, hq, c1, c2, c3, e1, imin, imax, h1, h2, l1, l2, cnd, cL, sw, oD]
      · by_cases h1 : min a b ≤ c <;> by_cases h2 : c < max a b <;> simp [bind_ok, bind_exc, st_ok, st_exc, seq_nx, seq_rt, seq_bk, seq_ct, seq_exc, turn_nx, turn_ct, turn_bk, turn_rt, turn_exc, mk_true, mk_false, runS_rt, runS_nx, runS_exc, forL_nil, get_off, get_off0, set_off, set_off0, take_len,  sSeq, sIf, sSkip, sRet, sDrop, sAsg, sFor, sGhost, tFreeze, fTest, fBin, fUn, fCall, fCons, fNil, fVar, fC, fAnd, fOr, fNot, fIf, fLst, fTup, fChain, fAndV, fOrV, gNot, allV, g1, g2, gc1, gc2, Sl.get, okV, gNm, gUnp, gUnpL, gsNil, gsCons,  fSeq, fRng1, fRng2, fEnum, fComp, fYes, CT.put, setAll, wipeE, fMeth, isLst, lstAt, appendG, extendG, popG, popAtG, reverseG, countG, fNo, fPart, fSl, slF, revF, addF, subF, mulF, fdivF, modF, powF, ordF, negF, isNonF, isF, absF, max2F, min2F, int1F, lenF, listF, tupleF, sumF, maxF, minF, ixF,  gSubF, setL, sPar, sAug, runC, lift, pureOf, getAll, allVB, D.nol, D.nolL, startE, isiF, tyName, clsL, clsNm, isiB, eqF_int, neF_int, eqF_ints, neF_ints, eqF_intsT, neF_intsT, stp, hp, hq, c1, c2, c3, e1, imin, imax, h1, h2, l1, l2, cnd, cF, sw, oD]
theorem inT2 (f : Bool) : inD (.str (kn f)) [.str "first", .str "last"] = true := by
  rw [inD_cons, inD_cons, inD_nil]
  simp only [D.py, PyData.eqv]
  cases f <;> decide +kernel
theorem stepped_eq (f : Bool) (p : Int) (w : List Int) (hw : w.length ≤ 1000) (μ : Store) : m_stepped [.v (Wd w), .v (stp f p)] μ = .ok (.v (oD (mv f p w))) μ := by
  have hf : inF true (.str (kn f)) (.tup [.str "first", .str "last"]) [] = .ok (.v (.bl false)) [] := by
    simp [inF, inT2, D.flat, okV]
  by_cases hp : p < 0
  · have hp' : ¬ 0 ≤ p := by omega
    rw [mv_out (.inl hp)]
    simp [m_stepped, b_stepped, bind_ok, bind_exc, st_ok, st_exc, seq_nx, seq_rt, seq_bk, seq_ct, seq_exc, turn_nx, turn_ct, turn_bk, turn_rt, turn_exc, mk_true, mk_false, runS_rt, runS_nx, runS_exc, forL_nil, get_off, get_off0, set_off, set_off0, take_len,  sSeq, sIf, sSkip, sRet, sDrop, sAsg, sFor, sGhost, tFreeze, fTest, fBin, fUn, fCall, fCons, fNil, fVar, fC, fAnd, fOr, fNot, fIf, fLst, fTup, fChain, fAndV, fOrV, gNot, allV, g1, g2, gc1, gc2, Sl.get, okV, gNm, gUnp, gUnpL, gsNil, gsCons,  fSeq, fRng1, fRng2, fEnum, fComp, fYes, CT.put, setAll, wipeE, fMeth, isLst, lstAt, appendG, extendG, popG, popAtG, reverseG, countG, fNo, fPart, fSl, slF, revF, addF, subF, mulF, fdivF, modF, powF, ordF, negF, isNonF, isF, absF, max2F, min2F, int1F, lenF, listF, tupleF, sumF, maxF, minF, ixF,  gSubF, setL, sPar, sAug, runC, lift, pureOf, getAll, allVB, D.nol, D.nolL, startE, isiF, tyName, clsL, clsNm, isiB, eqF_int, neF_int, eqF_ints, neF_ints, eqF_intsT, neF_intsT, stp, hp', oD, hf]
  · have hp' : 0 ≤ p := by omega
    by_cases hq : (w.length : Int) < p + 3
    · have hq' : ¬ p ≤ (w.length : Int) - 3 := by omega
      rw [mv_out (.inr hq)]
      simp [m_stepped, b_stepped, bind_ok, bind_exc, st_ok, st_exc, seq_nx, seq_rt, seq_bk, seq_ct, seq_exc, turn_nx, turn_ct, turn_bk, turn_rt, turn_exc, mk_true, mk_false, runS_rt, runS_nx, runS_exc, forL_nil, get_off, get_off0, set_off, set_off0, take_len,  sSeq, sIf, sSkip, sRet, sDrop, sAsg, sFor, sGhost, tFreeze, fTest, fBin, fUn, fCall, fCons, fNil, fVar, fC, fAnd, fOr, fNot, fIf, fLst, fTup, fChain, fAndV, fOrV, gNot, allV, g1, g2, gc1, gc2, Sl.get, okV, gNm, gUnp, gUnpL, gsNil, gsCons,  fSeq, fRng1, fRng2, fEnum, fComp, fYes, CT.put, setAll, wipeE, fMeth, isLst, lstAt, appendG, extendG, popG, popAtG, reverseG, countG, fNo, fPart, fSl, slF, revF, addF, subF, mulF, fdivF, modF, powF, ordF, negF, isNonF, isF, absF, max2F, min2F, int1F, lenF, listF, tupleF, sumF, maxF, minF, ixF,  gSubF, setL, sPar, sAug, runC, lift, pureOf, getAll, allVB, D.nol, D.nolL, startE, isiF, tyName, clsL, clsNm, isiB, eqF_int, neF_int, eqF_ints, neF_ints, eqF_intsT, neF_intsT, stp, hp', hq', oD, hf]
    · have hq' : p ≤ (w.length : Int) - 3 := by omega
      obtain ⟨n, rfl⟩ : ∃ n : Nat, p = n := ⟨p.toNat, by omega⟩
      have hn : n + 2 < w.length := by omega
      have c1 : cutD (w.map .int) (some (n : Int)) (some ((n : Int) + 3)) = [.int w[n], .int w[n + 1], .int w[n + 2]] := by
        rw [cut_lh (i := (n : Int)) (j := (n : Int) + 3) (a := n) (b := n + 3) rfl (by omega) (by rw [List.length_map]; omega), ← List.map_drop, drop3 hn]
        have : n + 3 - n = 3 := by omega
        rw [this]
        rfl
      have c2 : cutD (w.map .int) none (some (n : Int)) = (w.map .int).take n := cut_hi rfl
      have c3 : cutD (w.map .int) (some ((n : Int) + 3)) none = (w.map .int).drop (n + 3) := cut_lo (k := n + 3) (by omega)
      have hm : mv f (n : Int) w = mvN f n w := by unfold mv; rw [if_neg hp, Int.toNat_natCast]
      have hlim : lim = 16777216 := rfl
      have l1 : min n w.length + 3 ≤ lim := by omega
      have l2 : min n w.length + 3 + (w.length - (n + 3)) ≤ lim := by omega
      rw [hm, mvN_eq hn]
      have e1 := eqF_str (μ := []) (lay_kn f) lay_first
      have e2 := eqF_str (μ := []) (lay_kn f) lay_last
      rw [kn_first] at e1
      rw [kn_last] at e2
      simp only [m_stepped, b_stepped]
      generalize w[n] = a at *
      generalize w[n + 1] = b at *
      generalize w[n + 2] = c at *
      cases f
      · by_cases h1 : min b c < a <;> by_cases h2 : a ≤ max b c <;> simp [bind_ok, bind_exc, st_ok, st_exc, seq_nx, seq_rt, seq_bk, seq_ct, seq_exc, turn_nx, turn_ct, turn_bk, turn_rt, turn_exc, mk_true, mk_false, runS_rt, runS_nx, runS_exc, forL_nil, get_off, get_off0, set_off, set_off0, take_len,  sSeq, sIf, sSkip, sRet, sDrop, sAsg, sFor, sGhost, tFreeze, fTest, fBin, fUn, fCall, fCons, fNil, fVar, fC, fAnd, fOr, fNot, fIf, fLst, fTup, fChain, fAndV, fOrV, gNot, allV, g1, g2, gc1, gc2, Sl.get, okV, gNm, gUnp, gUnpL, gsNil, gsCons,  fSeq, fRng1, fRng2, fEnum, fComp, fYes, CT.put, setAll, wipeE, fMeth, isLst, lstAt, appendG, extendG, popG, popAtG, reverseG, countG, fNo, fPart, fSl, slF, revF, addF, subF, mulF, fdivF, modF, powF, ordF, negF, isNonF, isF, absF, max2F, min2F, int1F, lenF, listF, tupleF, sumF, maxF, minF, ixF,  gSubF, setL, sPar, sAug, runC, lift, pureOf, getAll, allVB, D.nol, D.nolL, startE, isiF, tyName, clsL, clsNm, isiB, eqF_int, neF_int, eqF_ints, neF_ints, eqF_intsT, neF_intsT, stp, hp', hq', hf, c1, c2, c3, e1, e2, imin, imax, h1, h2, l1, l2, cnd, cL, sw, oD]
      · by_cases h1 : min a b ≤ c <;> by_cases h2 : c < max a b <;> simp [bind_ok, bind_exc, st_ok, st_exc, seq_nx, seq_rt, seq_bk, seq_ct, seq_exc, turn_nx, turn_ct, turn_bk, turn_rt, turn_exc, mk_true, mk_false, runS_rt, runS_nx, runS_exc, forL_nil, get_off, get_off0, set_off, set_off0, take_len,  sSeq, sIf, sSkip, sRet, sDrop, sAsg, sFor, sGhost, tFreeze, fTest, fBin, fUn, fCall, fCons, fNil, fVar, fC, fAnd, fOr, fNot, fIf, fLst, fTup, fChain, fAndV, fOrV, gNot, allV, g1, g2, gc1, gc2, Sl.get, okV, gNm, gUnp, gUnpL, gsNil, gsCons,  fSeq, fRng1, fRng2, fEnum, fComp, fYes, CT.put, setAll, wipeE, fMeth, isLst, lstAt, appendG, extendG, popG, popAtG, reverseG, countG, fNo, fPart, fSl, slF, revF, addF, subF, mulF, fdivF, modF, powF, ordF, negF, isNonF, isF, absF, max2F, min2F, int1F, lenF, listF, tupleF, sumF, maxF, minF, ixF,  gSubF, setL, sPar, sAug, runC, lift, pureOf, getAll, allVB, D.nol, D.nolL, startE, isiF, tyName, clsL, clsNm, isiB, eqF_int, neF_int, eqF_ints, neF_ints, eqF_intsT, neF_intsT, stp, hp', hq', hf, c1, c2, c3, e1, e2, imin, imax, h1, h2, l1, l2, cnd, cF, sw, oD]
theorem step_len : ("step" : Str).length ≤ 1000000 := by decide +kernel
def xcW : Exc := ⟨"InvalidWord", ["what"], [.str "step"]⟩
theorem knuth_eq (f : Bool) (p : Int) (w : List Int) (hw : w.length ≤ 1000) (μ : Store) : m_knuth_step [.v (Wd w), .v (stp f p)] μ = match mv f p w with
    | some u => .ok (.v (Wd u)) μ
    | none => .exc xcW μ := by
  have h := stepped_eq f p w hw []
  simp only [m_knuth_step, b_knuth_step]
  cases q : mv f p w with
  | some u => rw [q] at h; simp [bind_ok, bind_exc, st_ok, st_exc, seq_nx, seq_rt, seq_bk, seq_ct, seq_exc, turn_nx, turn_ct, turn_bk, turn_rt, turn_exc, mk_true, mk_false, runS_rt, runS_nx, runS_exc, forL_nil, get_off, get_off0, set_off, set_off0, take_len,  sSeq, sIf, sSkip, sRet, sDrop, sAsg, sFor, sGhost, tFreeze, fTest, fBin, fUn, fCall, fCons, fNil, fVar, fC, fAnd, fOr, fNot, fIf, fLst, fTup, fChain, fAndV, fOrV, gNot, allV, g1, g2, gc1, gc2, Sl.get, okV, gNm, gUnp, gUnpL, gsNil, gsCons,  fSeq, fRng1, fRng2, fEnum, fComp, fYes, CT.put, setAll, wipeE, fMeth, isLst, lstAt, appendG, extendG, popG, popAtG, reverseG, countG, fNo, fPart, fSl, slF, revF, addF, subF, mulF, fdivF, modF, powF, ordF, negF, isNonF, isF, absF, max2F, min2F, int1F, lenF, listF, tupleF, sumF, maxF, minF, ixF,  gSubF, setL, sPar, sAug, runC, lift, pureOf, getAll, allVB, D.nol, D.nolL, startE, isiF, tyName, clsL, clsNm, isiB, eqF_int, neF_int, eqF_ints, neF_ints, eqF_intsT, neF_intsT, h, oD]
  | none => rw [q] at h; simp [bind_ok, bind_exc, st_ok, st_exc, seq_nx, seq_rt, seq_bk, seq_ct, seq_exc, turn_nx, turn_ct, turn_bk, turn_rt, turn_exc, mk_true, mk_false, runS_rt, runS_nx, runS_exc, forL_nil, get_off, get_off0, set_off, set_off0, take_len,  sSeq, sIf, sSkip, sRet, sDrop, sAsg, sFor, sGhost, tFreeze, fTest, fBin, fUn, fCall, fCons, fNil, fVar, fC, fAnd, fOr, fNot, fIf, fLst, fTup, fChain, fAndV, fOrV, gNot, allV, g1, g2, gc1, gc2, Sl.get, okV, gNm, gUnp, gUnpL, gsNil, gsCons,  fSeq, fRng1, fRng2, fEnum, fComp, fYes, CT.put, setAll, wipeE, fMeth, isLst, lstAt, appendG, extendG, popG, popAtG, reverseG, countG, fNo, fPart, fSl, slF, revF, addF, subF, mulF, fdivF, modF, powF, ordF, negF, isNonF, isF, absF, max2F, min2F, int1F, lenF, listF, tupleF, sumF, maxF, minF, ixF,  gSubF, setL, sPar, sAug, runC, lift, pureOf, getAll, allVB, D.nol, D.nolL, startE, isiF, tyName, clsL, clsNm, isiB, eqF_int, neF_int, eqF_ints, neF_ints, eqF_intsT, neF_intsT, h, oD, sRaise, step_len, xcW]
theorem lk : cs_InvalidWord.lookup xcW.cls = some true := by decide +kernel
def toldD : Option (List Int) → D
  | some u => Wd u
  | none => .tup [.str "invalid", .str "step"]
theorem told_eq (f : Bool) (p : Int) (w : List Int) (hw : w.length ≤ 1000) (μ : Store) : m__law_told [.v (Wd w), .v (stp f p)] μ = .ok (.v (toldD (mv f p w))) μ := by
  have h := knuth_eq f p w hw []
  have hx : xcW.what = some (.str "step") := rfl
  simp only [m__law_told, b__law_told]
  cases q : mv f p w with
  | some u => rw [q] at h; simp [bind_ok, bind_exc, st_ok, st_exc, seq_nx, seq_rt, seq_bk, seq_ct, seq_exc, turn_nx, turn_ct, turn_bk, turn_rt, turn_exc, mk_true, mk_false, runS_rt, runS_nx, runS_exc, forL_nil, get_off, get_off0, set_off, set_off0, take_len,  sSeq, sIf, sSkip, sRet, sDrop, sAsg, sFor, sGhost, tFreeze, fTest, fBin, fUn, fCall, fCons, fNil, fVar, fC, fAnd, fOr, fNot, fIf, fLst, fTup, fChain, fAndV, fOrV, gNot, allV, g1, g2, gc1, gc2, Sl.get, okV, gNm, gUnp, gUnpL, gsNil, gsCons,  fSeq, fRng1, fRng2, fEnum, fComp, fYes, CT.put, setAll, wipeE, fMeth, isLst, lstAt, appendG, extendG, popG, popAtG, reverseG, countG, fNo, fPart, fSl, slF, revF, addF, subF, mulF, fdivF, modF, powF, ordF, negF, isNonF, isF, absF, max2F, min2F, int1F, lenF, listF, tupleF, sumF, maxF, minF, ixF,  gSubF, setL, sPar, sAug, runC, lift, pureOf, getAll, allVB, D.nol, D.nolL, startE, isiF, tyName, clsL, clsNm, isiB, eqF_int, neF_int, eqF_ints, neF_ints, eqF_intsT, neF_intsT, h, toldD, sTry]
  | none => rw [q] at h; simp [bind_ok, bind_exc, st_ok, st_exc, seq_nx, seq_rt, seq_bk, seq_ct, seq_exc, turn_nx, turn_ct, turn_bk, turn_rt, turn_exc, mk_true, mk_false, runS_rt, runS_nx, runS_exc, forL_nil, get_off, get_off0, set_off, set_off0, take_len,  sSeq, sIf, sSkip, sRet, sDrop, sAsg, sFor, sGhost, tFreeze, fTest, fBin, fUn, fCall, fCons, fNil, fVar, fC, fAnd, fOr, fNot, fIf, fLst, fTup, fChain, fAndV, fOrV, gNot, allV, g1, g2, gc1, gc2, Sl.get, okV, gNm, gUnp, gUnpL, gsNil, gsCons,  fSeq, fRng1, fRng2, fEnum, fComp, fYes, CT.put, setAll, wipeE, fMeth, isLst, lstAt, appendG, extendG, popG, popAtG, reverseG, countG, fNo, fPart, fSl, slF, revF, addF, subF, mulF, fdivF, modF, powF, ordF, negF, isNonF, isF, absF, max2F, min2F, int1F, lenF, listF, tupleF, sumF, maxF, minF, ixF,  gSubF, setL, sPar, sAug, runC, lift, pureOf, getAll, allVB, D.nol, D.nolL, startE, isiF, tyName, clsL, clsNm, isiB, eqF_int, neF_int, eqF_ints, neF_ints, eqF_intsT, neF_intsT, h, toldD, sTry, lk, SOut.unx, clrX, fWhat, hx]

/-! the steps that can be made -/
def stepsIn (f : Bool) (w : List Int) (lo : Int) (n : Nat) : List D := ((List.range n).filter fun i => (mv f (lo + (i : Nat)) w).isSome).map fun i => stp f (lo + (i : Nat))
theorem steps_succ (f : Bool) (w : List Int) (lo : Int) (n : Nat) : stepsIn f w lo (n + 1) = stepsIn f w lo n ++ (if (mv f (lo + (n : Nat)) w).isSome = true then [stp f (lo + (n : Nat))] else []) := by
  unfold stepsIn
  rw [List.range_succ, List.filter_append, List.map_append]
  congr 1
  by_cases h : (mv f (lo + (n : Nat)) w).isSome = true
  · rw [if_pos h]; simp [List.filter_cons, h]
  · rw [if_neg h]; simp [List.filter_cons, h]
theorem steps_add (f : Bool) (w : List Int) (lo : Int) (a : Nat) : ∀ b, stepsIn f w lo (a + b) = stepsIn f w lo a ++ stepsIn f w (lo + (a : Nat)) b
  | 0 => by simp [stepsIn]
  | b + 1 => by
    rw [← Nat.add_assoc, steps_succ, steps_succ, steps_add f w lo a b, List.append_assoc]
    have : lo + ((a + b : Nat) : Int) = lo + (a : Nat) + (b : Nat) := by omega
    rw [this]
theorem steps_none (f : Bool) (w : List Int) (lo : Int) (n : Nat) (h : ∀ i : Nat, i < n → mv f (lo + (i : Nat)) w = none) : stepsIn f w lo n = [] := by
  induction n with
  | zero => rfl
  | succ n ih => rw [steps_succ, ih fun i hi => h i (by omega), h n (by omega)]; rfl
theorem steps_wide (f : Bool) (w : List Int) : stepsIn f w (-2) (w.length + 4) = stepsIn f w 0 (w.length - 2) := by
  have e : w.length + 4 = 2 + ((w.length - 2) + (w.length + 4 - 2 - (w.length - 2))) := by omega
  rw [e, steps_add, steps_add, steps_none f w (-2) 2 (fun i hi => mv_out (.inl (by omega))), steps_none f w _ (w.length + 4 - 2 - (w.length - 2)) (fun i hi => mv_out (.inr (by omega)))]
  simp
theorem steps_len (f : Bool) (w : List Int) (lo : Int) (n : Nat) : (stepsIn f w lo n).length ≤ n := by
  unfold stepsIn
  rw [List.length_map]
  exact Nat.le_trans (List.length_filter_le _ _) (by simp)
theorem steps_std (f : Bool) (w : List Int) (lo : Int) (n : Nat) : stepsIn f (std w) lo n = stepsIn f w lo n := by
  unfold stepsIn
  simp only [std_step]
theorem oD_non (o : Option (List Int)) (neg : Bool) (μ : Store) : isNonF neg (.v (oD o)) μ = .ok (.v (.bl (if o.isSome = true then neg else !neg))) μ := by cases o <;> rfl
def allSteps (w : List Int) : List D := stepsIn true w 0 (w.length - 2) ++ stepsIn false w 0 (w.length - 2)
theorem steps_eq (w : List Int) (hw : w.length ≤ 1000) (μ : Store) : m_knuth_steps [.v (Wd w)] μ = .ok (.v (.lst (allSteps w))) μ := by
  have hlim : lim = 16777216 := rfl
  have inner : ∀ (f : Bool) (acc : List D) (hacc : acc.length ≤ 10000) (o3 : Option Sl), ∃ o3', sForL (gNm 3) b_knuth_steps_1 (rangeD 0 (w.length - 2)) [some (.v (Wd w)), some (.c 0), some (.v (.str (kn f))), o3] [some (.lst acc)] = .go .nx [some (.v (Wd w)), some (.c 0), some (.v (.str (kn f))), o3'] [some (.lst (acc ++ stepsIn f w 0 (w.length - 2)))] := by
    intro f acc hacc o3
    obtain ⟨ρ', μ', e, o, rfl, rfl⟩ := forL_inv (tg := gNm 3) (body := b_knuth_steps_1) (ds := rangeD 0 (w.length - 2)) (ρ := [some (.v (Wd w)), some (.c 0), some (.v (.str (kn f))), o3]) (μ := [some (.lst acc)])
      (fun i ρ μ => ∃ o3, ρ = [some (.v (Wd w)), some (.c 0), some (.v (.str (kn f))), o3] ∧ μ = [some (.lst (acc ++ stepsIn f w 0 i))]) ⟨o3, rfl, by simp [stepsIn]⟩ (fun i d ρ μ hd ⟨o3, e1, e2⟩ => by
        obtain ⟨hi, rfl⟩ := rangeD_get hd
        subst e1 e2
        have hl : acc.length + (stepsIn f w 0 i).length < lim := by have := steps_len f w 0 i; omega
        have hs := stepped_eq f (0 + (i : Nat)) w hw [some (.lst (acc ++ stepsIn f w 0 i))]
        unfold stp at hs
        refine ⟨_, _, _, _, rfl, ?_, some (.v (.int (0 + (i : Nat)))), rfl, rfl⟩
        rw [steps_succ]
        cases q : mv f (0 + (i : Nat)) w with
        | none => rw [q] at hs; simp at hs ⊢; simp [b_knuth_steps_1, bind_ok, bind_exc, st_ok, st_exc, seq_nx, seq_rt, seq_bk, seq_ct, seq_exc, turn_nx, turn_ct, turn_bk, turn_rt, turn_exc, mk_true, mk_false, runS_rt, runS_nx, runS_exc, forL_nil, get_off, get_off0, set_off, set_off0, take_len,  sSeq, sIf, sSkip, sRet, sDrop, sAsg, sFor, sGhost, tFreeze, fTest, fBin, fUn, fCall, fCons, fNil, fVar, fC, fAnd, fOr, fNot, fIf, fLst, fTup, fChain, fAndV, fOrV, gNot, allV, g1, g2, gc1, gc2, Sl.get, okV, gNm, gUnp, gUnpL, gsNil, gsCons,  fSeq, fRng1, fRng2, fEnum, fComp, fYes, CT.put, setAll, wipeE, fMeth, isLst, lstAt, appendG, extendG, popG, popAtG, reverseG, countG, fNo, fPart, fSl, slF, revF, addF, subF, mulF, fdivF, modF, powF, ordF, negF, isNonF, isF, absF, max2F, min2F, int1F, lenF, listF, tupleF, sumF, maxF, minF, ixF,  gSubF, setL, sPar, sAug, runC, lift, pureOf, getAll, allVB, D.nol, D.nolL, startE, isiF, tyName, clsL, clsNm, isiB, eqF_int, neF_int, eqF_ints, neF_ints, eqF_intsT, neF_intsT, hs, oD]
        | some u => rw [q] at hs; simp at hs ⊢; simp [b_knuth_steps_1, bind_ok, bind_exc, st_ok, st_exc, seq_nx, seq_rt, seq_bk, seq_ct, seq_exc, turn_nx, turn_ct, turn_bk, turn_rt, turn_exc, mk_true, mk_false, runS_rt, runS_nx, runS_exc, forL_nil, get_off, get_off0, set_off, set_off0, take_len,  sSeq, sIf, sSkip, sRet, sDrop, sAsg, sFor, sGhost, tFreeze, fTest, fBin, fUn, fCall, fCons, fNil, fVar, fC, fAnd, fOr, fNot, fIf, fLst, fTup, fChain, fAndV, fOrV, gNot, allV, g1, g2, gc1, gc2, Sl.get, okV, gNm, gUnp, gUnpL, gsNil, gsCons,  fSeq, fRng1, fRng2, fEnum, fComp, fYes, CT.put, setAll, wipeE, fMeth, isLst, lstAt, appendG, extendG, popG, popAtG, reverseG, countG, fNo, fPart, fSl, slF, revF, addF, subF, mulF, fdivF, modF, powF, ordF, negF, isNonF, isF, absF, max2F, min2F, int1F, lenF, listF, tupleF, sumF, maxF, minF, ixF,  gSubF, setL, sPar, sAug, runC, lift, pureOf, getAll, allVB, D.nol, D.nolL, startE, isiF, tyName, clsL, clsNm, isiB, eqF_int, neF_int, eqF_ints, neF_ints, eqF_intsT, neF_intsT, hs, oD, hl, stp])
    rw [rangeD_len] at e
    exact ⟨o, e⟩
  obtain ⟨a, ha⟩ := inner true [] (by simp) none
  obtain ⟨b, hb⟩ := inner false (stepsIn true w 0 (w.length - 2)) (by have := steps_len true w 0 (w.length - 2); omega) a
  have e1 : ((w.length : Int) - 2).toNat = w.length - 2 := by omega
  have e2 : ((w.length : Int) - 2).natAbs < 2305843009213693952 := by omega
  have k1 : ("first" : Str) = kn true := rfl
  have k2 : ("last" : Str) = kn false := rfl
  simp only [List.nil_append] at ha
  simp only [m_knuth_steps, b_knuth_steps, b_knuth_steps_2, k1, k2]
  simp [bind_ok, bind_exc, st_ok, st_exc, seq_nx, seq_rt, seq_bk, seq_ct, seq_exc, turn_nx, turn_ct, turn_bk, turn_rt, turn_exc, mk_true, mk_false, runS_rt, runS_nx, runS_exc, forL_nil, get_off, get_off0, set_off, set_off0, take_len,  sSeq, sIf, sSkip, sRet, sDrop, sAsg, sFor, sGhost, tFreeze, fTest, fBin, fUn, fCall, fCons, fNil, fVar, fC, fAnd, fOr, fNot, fIf, fLst, fTup, fChain, fAndV, fOrV, gNot, allV, g1, g2, gc1, gc2, Sl.get, okV, gNm, gUnp, gUnpL, gsNil, gsCons,  fSeq, fRng1, fRng2, fEnum, fComp, fYes, CT.put, setAll, wipeE, fMeth, isLst, lstAt, appendG, extendG, popG, popAtG, reverseG, countG, fNo, fPart, fSl, slF, revF, addF, subF, mulF, fdivF, modF, powF, ordF, negF, isNonF, isF, absF, max2F, min2F, int1F, lenF, listF, tupleF, sumF, maxF, minF, ixF,  gSubF, setL, sPar, sAug, runC, lift, pureOf, getAll, allVB, D.nol, D.nolL, startE, isiF, tyName, clsL, clsNm, isiB, eqF_int, neF_int, eqF_ints, neF_ints, eqF_intsT, neF_intsT, sForL, e1, e2, ha, hb, allSteps]
end k13

namespace k13
open PySem PySem.Spec PyProof.Rows L2 DL
/-! judge_steps -/
/-- a step as (kind, place) -/
abbrev SP := Bool × Int
def sD (s : SP) : D := stp s.1 s.2
def goAll : List SP → List Int → Option (List Int)
  | [], w => some w
  | s :: ss, w => (mv s.1 s.2 w).bind (goAll ss)
theorem goAll_len : ∀ {ss : List SP} {w u : List Int}, goAll ss w = some u → u.length = w.length
  | [], w, u, h => by cases h; rfl
  | s :: ss, w, u, h => by
    unfold goAll at h
    cases q : mv s.1 s.2 w with
    | none => rw [q] at h; cases h
    | some v => rw [q] at h; rw [goAll_len h, mv_len q]
theorem judge_loop (W0 O : D) (S : D) : ∀ (ss : List SP) (w : List Int) (o4 : Option Sl), w.length ≤ 1000 →
    sForL (gNm 4) b_judge_steps_1 (ss.map sD) [some (.v W0), some (.v S), some (.v O), some (.v (Wd w)), o4] [] = match goAll ss w with
      | some u => .go .nx [some (.v W0), some (.v S), some (.v O), some (.v (Wd u)), (match ss.getLast? with | some s => some (.v (sD s)) | none => o4)] []
      | none => (sForL (gNm 4) b_judge_steps_1 (ss.map sD) [some (.v W0), some (.v S), some (.v O), some (.v (Wd w)), o4] [])
  | [], w, o4, _ => rfl
  | s :: ss, w, o4, hw => by
    cases q : goAll (s :: ss) w with
    | none => rfl
    | some u =>
      unfold goAll at q
      cases q1 : mv s.1 s.2 w with
      | none => rw [q1] at q; cases q
      | some v =>
        rw [q1] at q
        have ih := judge_loop W0 O S ss v (some (.v (sD s))) (by rw [mv_len q1]; exact hw)
        have q' : goAll ss v = some u := q
        rw [q'] at ih
        have hs := stepped_eq s.1 s.2 w hw []
        rw [q1] at hs
        rw [List.map_cons, sForL]
        have hb : b_judge_steps_1 [some (.v W0), some (.v S), some (.v O), some (.v (Wd w)), some (.v (sD s))] [] = .go .nx [some (.v W0), some (.v S), some (.v O), some (.v (Wd v)), some (.v (sD s))] [] := by
          simp [b_judge_steps_1, bind_ok, bind_exc, st_ok, st_exc, seq_nx, seq_rt, seq_bk, seq_ct, seq_exc, turn_nx, turn_ct, turn_bk, turn_rt, turn_exc, mk_true, mk_false, runS_rt, runS_nx, runS_exc, forL_nil, get_off, get_off0, set_off, set_off0, take_len,  sSeq, sIf, sSkip, sRet, sDrop, sAsg, sFor, sGhost, tFreeze, fTest, fBin, fUn, fCall, fCons, fNil, fVar, fC, fAnd, fOr, fNot, fIf, fLst, fTup, fChain, fAndV, fOrV, gNot, allV, g1, g2, gc1, gc2, Sl.get, okV, gNm, gUnp, gUnpL, gsNil, gsCons,  fSeq, fRng1, fRng2, fEnum, fComp, fYes, CT.put, setAll, wipeE, fMeth, isLst, lstAt, appendG, extendG, popG, popAtG, reverseG, countG, fNo, fPart, fSl, slF, revF, addF, subF, mulF, fdivF, modF, powF, ordF, negF, isNonF, isF, absF, max2F, min2F, int1F, lenF, listF, tupleF, sumF, maxF, minF, ixF,  gSubF, setL, sPar, sAug, runC, lift, pureOf, getAll, allVB, D.nol, D.nolL, startE, isiF, tyName, clsL, clsNm, isiB, eqF_int, neF_int, eqF_ints, neF_ints, eqF_intsT, neF_intsT, sD, hs, oD]
        simp only [gNm, List.set_cons_succ, List.set_cons_zero, hb, turn_nx]
        rw [ih]
        cases ss <;> rfl
theorem judge_bad (W0 O : D) (S : D) : ∀ (ss : List SP) (w : List Int) (o4 : Option Sl), w.length ≤ 1000 → goAll ss w = none →
    ∃ ρ, sForL (gNm 4) b_judge_steps_1 (ss.map sD) [some (.v W0), some (.v S), some (.v O), some (.v (Wd w)), o4] [] = .go (.rt (.v (.bl false))) ρ []
  | [], w, o4, _, h => by cases h
  | s :: ss, w, o4, hw, q => by
    unfold goAll at q
    have hs := stepped_eq s.1 s.2 w hw []
    rw [List.map_cons, sForL]
    cases q1 : mv s.1 s.2 w with
    | none =>
      rw [q1] at hs
      have hb : b_judge_steps_1 [some (.v W0), some (.v S), some (.v O), some (.v (Wd w)), some (.v (sD s))] [] = .go (.rt (.v (.bl false))) [some (.v W0), some (.v S), some (.v O), some (.v .non), some (.v (sD s))] [] := by
        simp [b_judge_steps_1, bind_ok, bind_exc, st_ok, st_exc, seq_nx, seq_rt, seq_bk, seq_ct, seq_exc, turn_nx, turn_ct, turn_bk, turn_rt, turn_exc, mk_true, mk_false, runS_rt, runS_nx, runS_exc, forL_nil, get_off, get_off0, set_off, set_off0, take_len,  sSeq, sIf, sSkip, sRet, sDrop, sAsg, sFor, sGhost, tFreeze, fTest, fBin, fUn, fCall, fCons, fNil, fVar, fC, fAnd, fOr, fNot, fIf, fLst, fTup, fChain, fAndV, fOrV, gNot, allV, g1, g2, gc1, gc2, Sl.get, okV, gNm, gUnp, gUnpL, gsNil, gsCons,  fSeq, fRng1, fRng2, fEnum, fComp, fYes, CT.put, setAll, wipeE, fMeth, isLst, lstAt, appendG, extendG, popG, popAtG, reverseG, countG, fNo, fPart, fSl, slF, revF, addF, subF, mulF, fdivF, modF, powF, ordF, negF, isNonF, isF, absF, max2F, min2F, int1F, lenF, listF, tupleF, sumF, maxF, minF, ixF,  gSubF, setL, sPar, sAug, runC, lift, pureOf, getAll, allVB, D.nol, D.nolL, startE, isiF, tyName, clsL, clsNm, isiB, eqF_int, neF_int, eqF_ints, neF_ints, eqF_intsT, neF_intsT, sD, hs, oD]
      simp only [gNm, List.set_cons_succ, List.set_cons_zero, hb, turn_rt]
      exact ⟨_, rfl⟩
    | some v =>
      rw [q1] at q hs
      have hb : b_judge_steps_1 [some (.v W0), some (.v S), some (.v O), some (.v (Wd w)), some (.v (sD s))] [] = .go .nx [some (.v W0), some (.v S), some (.v O), some (.v (Wd v)), some (.v (sD s))] [] := by
        simp [b_judge_steps_1, bind_ok, bind_exc, st_ok, st_exc, seq_nx, seq_rt, seq_bk, seq_ct, seq_exc, turn_nx, turn_ct, turn_bk, turn_rt, turn_exc, mk_true, mk_false, runS_rt, runS_nx, runS_exc, forL_nil, get_off, get_off0, set_off, set_off0, take_len,  sSeq, sIf, sSkip, sRet, sDrop, sAsg, sFor, sGhost, tFreeze, fTest, fBin, fUn, fCall, fCons, fNil, fVar, fC, fAnd, fOr, fNot, fIf, fLst, fTup, fChain, fAndV, fOrV, gNot, allV, g1, g2, gc1, gc2, Sl.get, okV, gNm, gUnp, gUnpL, gsNil, gsCons,  fSeq, fRng1, fRng2, fEnum, fComp, fYes, CT.put, setAll, wipeE, fMeth, isLst, lstAt, appendG, extendG, popG, popAtG, reverseG, countG, fNo, fPart, fSl, slF, revF, addF, subF, mulF, fdivF, modF, powF, ordF, negF, isNonF, isF, absF, max2F, min2F, int1F, lenF, listF, tupleF, sumF, maxF, minF, ixF,  gSubF, setL, sPar, sAug, runC, lift, pureOf, getAll, allVB, D.nol, D.nolL, startE, isiF, tyName, clsL, clsNm, isiB, eqF_int, neF_int, eqF_ints, neF_ints, eqF_intsT, neF_intsT, sD, hs, oD]
      simp only [gNm, List.set_cons_succ, List.set_cons_zero, hb, turn_nx]
      exact judge_bad W0 O S ss v _ (by rw [mv_len q1]; exact hw) q
theorem judge_eq (w g : List Int) (ss : List SP) (hw : w.length ≤ 1000) (μ : Store) : m_judge_steps [.v (Wd w), .v (.lst (ss.map sD)), .v (Wd g)] μ = .ok (.v (.bl (decide (goAll ss w = some g)))) μ := by
  simp only [m_judge_steps, b_judge_steps]
  cases q : goAll ss w with
  | none =>
    obtain ⟨ρ, h⟩ := judge_bad (Wd w) (Wd g) (.lst (ss.map sD)) ss w none hw q
    simp [bind_ok, bind_exc, st_ok, st_exc, seq_nx, seq_rt, seq_bk, seq_ct, seq_exc, turn_nx, turn_ct, turn_bk, turn_rt, turn_exc, mk_true, mk_false, runS_rt, runS_nx, runS_exc, forL_nil, get_off, get_off0, set_off, set_off0, take_len,  sSeq, sIf, sSkip, sRet, sDrop, sAsg, sFor, sGhost, tFreeze, fTest, fBin, fUn, fCall, fCons, fNil, fVar, fC, fAnd, fOr, fNot, fIf, fLst, fTup, fChain, fAndV, fOrV, gNot, allV, g1, g2, gc1, gc2, Sl.get, okV, gNm, gUnp, gUnpL, gsNil, gsCons,  fSeq, fRng1, fRng2, fEnum, fComp, fYes, CT.put, setAll, wipeE, fMeth, isLst, lstAt, appendG, extendG, popG, popAtG, reverseG, countG, fNo, fPart, fSl, slF, revF, addF, subF, mulF, fdivF, modF, powF, ordF, negF, isNonF, isF, absF, max2F, min2F, int1F, lenF, listF, tupleF, sumF, maxF, minF, ixF,  gSubF, setL, sPar, sAug, runC, lift, pureOf, getAll, allVB, D.nol, D.nolL, startE, isiF, tyName, clsL, clsNm, isiB, eqF_int, neF_int, eqF_ints, neF_ints, eqF_intsT, neF_intsT] at h ⊢
    rw [h]
    simp [bind_ok, bind_exc, st_ok, st_exc, seq_nx, seq_rt, seq_bk, seq_ct, seq_exc, turn_nx, turn_ct, turn_bk, turn_rt, turn_exc, mk_true, mk_false, runS_rt, runS_nx, runS_exc, forL_nil, get_off, get_off0, set_off, set_off0, take_len,  sSeq, sIf, sSkip, sRet, sDrop, sAsg, sFor, sGhost, tFreeze, fTest, fBin, fUn, fCall, fCons, fNil, fVar, fC, fAnd, fOr, fNot, fIf, fLst, fTup, fChain, fAndV, fOrV, gNot, allV, g1, g2, gc1, gc2, Sl.get, okV, gNm, gUnp, gUnpL, gsNil, gsCons,  fSeq, fRng1, fRng2, fEnum, fComp, fYes, CT.put, setAll, wipeE, fMeth, isLst, lstAt, appendG, extendG, popG, popAtG, reverseG, countG, fNo, fPart, fSl, slF, revF, addF, subF, mulF, fdivF, modF, powF, ordF, negF, isNonF, isF, absF, max2F, min2F, int1F, lenF, listF, tupleF, sumF, maxF, minF, ixF,  gSubF, setL, sPar, sAug, runC, lift, pureOf, getAll, allVB, D.nol, D.nolL, startE, isiF, tyName, clsL, clsNm, isiB, eqF_int, neF_int, eqF_ints, neF_ints, eqF_intsT, neF_intsT]
  | some u =>
    have h := judge_loop (Wd w) (Wd g) (.lst (ss.map sD)) ss w none hw
    rw [q] at h
    simp [bind_ok, bind_exc, st_ok, st_exc, seq_nx, seq_rt, seq_bk, seq_ct, seq_exc, turn_nx, turn_ct, turn_bk, turn_rt, turn_exc, mk_true, mk_false, runS_rt, runS_nx, runS_exc, forL_nil, get_off, get_off0, set_off, set_off0, take_len,  sSeq, sIf, sSkip, sRet, sDrop, sAsg, sFor, sGhost, tFreeze, fTest, fBin, fUn, fCall, fCons, fNil, fVar, fC, fAnd, fOr, fNot, fIf, fLst, fTup, fChain, fAndV, fOrV, gNot, allV, g1, g2, gc1, gc2, Sl.get, okV, gNm, gUnp, gUnpL, gsNil, gsCons,  fSeq, fRng1, fRng2, fEnum, fComp, fYes, CT.put, setAll, wipeE, fMeth, isLst, lstAt, appendG, extendG, popG, popAtG, reverseG, countG, fNo, fPart, fSl, slF, revF, addF, subF, mulF, fdivF, modF, powF, ordF, negF, isNonF, isF, absF, max2F, min2F, int1F, lenF, listF, tupleF, sumF, maxF, minF, ixF,  gSubF, setL, sPar, sAug, runC, lift, pureOf, getAll, allVB, D.nol, D.nolL, startE, isiF, tyName, clsL, clsNm, isiB, eqF_int, neF_int, eqF_ints, neF_ints, eqF_intsT, neF_intsT] at h ⊢
    rw [h]
    simp [bind_ok, bind_exc, st_ok, st_exc, seq_nx, seq_rt, seq_bk, seq_ct, seq_exc, turn_nx, turn_ct, turn_bk, turn_rt, turn_exc, mk_true, mk_false, runS_rt, runS_nx, runS_exc, forL_nil, get_off, get_off0, set_off, set_off0, take_len,  sSeq, sIf, sSkip, sRet, sDrop, sAsg, sFor, sGhost, tFreeze, fTest, fBin, fUn, fCall, fCons, fNil, fVar, fC, fAnd, fOr, fNot, fIf, fLst, fTup, fChain, fAndV, fOrV, gNot, allV, g1, g2, gc1, gc2, Sl.get, okV, gNm, gUnp, gUnpL, gsNil, gsCons,  fSeq, fRng1, fRng2, fEnum, fComp, fYes, CT.put, setAll, wipeE, fMeth, isLst, lstAt, appendG, extendG, popG, popAtG, reverseG, countG, fNo, fPart, fSl, slF, revF, addF, subF, mulF, fdivF, modF, powF, ordF, negF, isNonF, isF, absF, max2F, min2F, int1F, lenF, listF, tupleF, sumF, maxF, minF, ixF,  gSubF, setL, sPar, sAug, runC, lift, pureOf, getAll, allVB, D.nol, D.nolL, startE, isiF, tyName, clsL, clsNm, isiB, eqF_int, neF_int, eqF_ints, neF_ints, eqF_intsT, neF_intsT]
/-! standard_word, the law's own -/
theorem lawstd_eq (w : List Int) (hw : w.length ≤ 1000) (μ : Store) : m__law_standard [.v (Wd w)] μ = .ok (.v (Wd (std w))) μ := by
  have hlim : lim = 16777216 := rfl
  have hsz : w.length < 2305843009213693952 := by omega
  obtain ⟨ρ', μ', e, o2, o3, o4, rfl, rfl⟩ := forL_inv (tg := gNm 2) (body := b__law_standard_1) (ds := rangeD 0 w.length) (ρ := [some (.v (Wd w)), some (.c 0), none, none, none]) (μ := [some (.lst [])])
    (fun i ρ μ => ∃ o2 o3 o4, ρ = [some (.v (Wd w)), some (.c 0), o2, o3, o4] ∧ μ = [some (.lst (((std w).take i).map .int))]) ⟨none, none, none, rfl, by simp⟩ (fun i d ρ μ hd ⟨o2, o3, o4, e1, e2⟩ => by
      obtain ⟨hi, rfl⟩ := rangeD_get hd
      subst e1 e2
      have gi : atI (w.map D.int) (i : Int) = some (.int w[i]) := atI_map_int w i hi
      have st : (std w).take (i + 1) = (std w).take i ++ [((rnk (prs w) (w[i], i) : Nat) : Int) + 1] := by
        rw [List.take_succ, std_get hi]; rfl
      have cl := cloop_eq (t := .nm 4) (ft := fTest (fBin (fVar 4) (fBin (fVar 0) (fVar 2) (g2 ixF)) (g2 ltF))) (fe := fVar 4) (ρ := [some (.v (Wd w)), some (.c 0), some (.v (.int (i : Nat))), o3, none]) (μ := [some (.lst (((std w).take i).map .int))])
        (fun d => match d with | .int x => decide (x < w[i]) | _ => false) id (w.map .int) [] (by simp; omega) (fun d m => by
          obtain ⟨x, _, rfl⟩ := List.mem_map.mp m
          exact ⟨_, rfl, by simp [bind_ok, bind_exc, st_ok, st_exc, seq_nx, seq_rt, seq_bk, seq_ct, seq_exc, turn_nx, turn_ct, turn_bk, turn_rt, turn_exc, mk_true, mk_false, runS_rt, runS_nx, runS_exc, forL_nil, get_off, get_off0, set_off, set_off0, take_len,  sSeq, sIf, sSkip, sRet, sDrop, sAsg, sFor, sGhost, tFreeze, fTest, fBin, fUn, fCall, fCons, fNil, fVar, fC, fAnd, fOr, fNot, fIf, fLst, fTup, fChain, fAndV, fOrV, gNot, allV, g1, g2, gc1, gc2, Sl.get, okV, gNm, gUnp, gUnpL, gsNil, gsCons,  fSeq, fRng1, fRng2, fEnum, fComp, fYes, CT.put, setAll, wipeE, fMeth, isLst, lstAt, appendG, extendG, popG, popAtG, reverseG, countG, fNo, fPart, fSl, slF, revF, addF, subF, mulF, fdivF, modF, powF, ordF, negF, isNonF, isF, absF, max2F, min2F, int1F, lenF, listF, tupleF, sumF, maxF, minF, ixF,  gSubF, setL, sPar, sAug, runC, lift, pureOf, getAll, allVB, D.nol, D.nolL, startE, isiF, tyName, clsL, clsNm, isiB, eqF_int, neF_int, eqF_ints, neF_ints, eqF_intsT, neF_intsT, gi], fun _ => by simp [bind_ok, bind_exc, st_ok, st_exc, seq_nx, seq_rt, seq_bk, seq_ct, seq_exc, turn_nx, turn_ct, turn_bk, turn_rt, turn_exc, mk_true, mk_false, runS_rt, runS_nx, runS_exc, forL_nil, get_off, get_off0, set_off, set_off0, take_len,  sSeq, sIf, sSkip, sRet, sDrop, sAsg, sFor, sGhost, tFreeze, fTest, fBin, fUn, fCall, fCons, fNil, fVar, fC, fAnd, fOr, fNot, fIf, fLst, fTup, fChain, fAndV, fOrV, gNot, allV, g1, g2, gc1, gc2, Sl.get, okV, gNm, gUnp, gUnpL, gsNil, gsCons,  fSeq, fRng1, fRng2, fEnum, fComp, fYes, CT.put, setAll, wipeE, fMeth, isLst, lstAt, appendG, extendG, popG, popAtG, reverseG, countG, fNo, fPart, fSl, slF, revF, addF, subF, mulF, fdivF, modF, powF, ordF, negF, isNonF, isF, absF, max2F, min2F, int1F, lenF, listF, tupleF, sumF, maxF, minF, ixF,  gSubF, setL, sPar, sAug, runC, lift, pureOf, getAll, allVB, D.nol, D.nolL, startE, isiF, tyName, clsL, clsNm, isiB, eqF_int, neF_int, eqF_ints, neF_ints, eqF_intsT, neF_intsT]⟩)
      have fl : ((w.map D.int).filter (fun d => match d with | .int x => decide (x < w[i]) | _ => false)).map id = (w.filter fun x => decide (x < w[i])).map .int := by
        rw [List.filter_map, List.map_id]
        rfl
      rw [fl, List.nil_append] at cl
      have c2 : cutD (w.map .int) none (some (i : Int)) = (w.take i).map .int := by rw [cut_hi (k := i) rfl, List.map_take]
      have l1 : min i w.length < lim := by omega
      have io : intsOf ((w.take i).map D.int) = some (w.take i) := intsOf_map _
      refine ⟨_, _, _, _, rfl, ?_, some (.v (.int (0 + (i : Nat)))), some (.v (.int ((w.filter fun x => decide (x < w[i])).length : Nat))), o4, rfl, rfl⟩
      rw [st]
      have rr := rk_count hi
      simp only [b__law_standard_1]
      simp at cl c2 io ⊢
      simp [bind_ok, bind_exc, st_ok, st_exc, seq_nx, seq_rt, seq_bk, seq_ct, seq_exc, turn_nx, turn_ct, turn_bk, turn_rt, turn_exc, mk_true, mk_false, runS_rt, runS_nx, runS_exc, forL_nil, get_off, get_off0, set_off, set_off0, take_len,  sSeq, sIf, sSkip, sRet, sDrop, sAsg, sFor, sGhost, tFreeze, fTest, fBin, fUn, fCall, fCons, fNil, fVar, fC, fAnd, fOr, fNot, fIf, fLst, fTup, fChain, fAndV, fOrV, gNot, allV, g1, g2, gc1, gc2, Sl.get, okV, gNm, gUnp, gUnpL, gsNil, gsCons,  fSeq, fRng1, fRng2, fEnum, fComp, fYes, CT.put, setAll, wipeE, fMeth, isLst, lstAt, appendG, extendG, popG, popAtG, reverseG, countG, fNo, fPart, fSl, slF, revF, addF, subF, mulF, fdivF, modF, powF, ordF, negF, isNonF, isF, absF, max2F, min2F, int1F, lenF, listF, tupleF, sumF, maxF, minF, ixF,  gSubF, setL, sPar, sAug, runC, lift, pureOf, getAll, allVB, D.nol, D.nolL, startE, isiF, tyName, clsL, clsNm, isiB, eqF_int, neF_int, eqF_ints, neF_ints, eqF_intsT, neF_intsT, cl, gi, c2, io, l1]
      have e9 : (1 : Int) + ((w.filter fun x => decide (x < w[i])).length : Nat) + (((w.take i).count w[i] : Nat) : Int) = (rnk (prs w) (w[i], i) : Nat) + 1 := by
        rw [rr, ← List.countP_eq_length_filter]
        have : (w.take i).count w[i] = (w.take i).countP fun y => decide (y = w[i]) := by
          unfold List.count
          congr 1
        rw [this]
        omega
      rw [if_pos (by rw [std_len]; omega), e9]
      rfl)
  rw [rangeD_len, List.take_of_length_le (by rw [std_len]; exact Nat.le_refl _)] at e
  simp only [m__law_standard, b__law_standard]
  simp [bind_ok, bind_exc, st_ok, st_exc, seq_nx, seq_rt, seq_bk, seq_ct, seq_exc, turn_nx, turn_ct, turn_bk, turn_rt, turn_exc, mk_true, mk_false, runS_rt, runS_nx, runS_exc, forL_nil, get_off, get_off0, set_off, set_off0, take_len,  sSeq, sIf, sSkip, sRet, sDrop, sAsg, sFor, sGhost, tFreeze, fTest, fBin, fUn, fCall, fCons, fNil, fVar, fC, fAnd, fOr, fNot, fIf, fLst, fTup, fChain, fAndV, fOrV, gNot, allV, g1, g2, gc1, gc2, Sl.get, okV, gNm, gUnp, gUnpL, gsNil, gsCons,  fSeq, fRng1, fRng2, fEnum, fComp, fYes, CT.put, setAll, wipeE, fMeth, isLst, lstAt, appendG, extendG, popG, popAtG, reverseG, countG, fNo, fPart, fSl, slF, revF, addF, subF, mulF, fdivF, modF, powF, ordF, negF, isNonF, isF, absF, max2F, min2F, int1F, lenF, listF, tupleF, sumF, maxF, minF, ixF,  gSubF, setL, sPar, sAug, runC, lift, pureOf, getAll, allVB, D.nol, D.nolL, startE, isiF, tyName, clsL, clsNm, isiB, eqF_int, neF_int, eqF_ints, neF_ints, eqF_intsT, neF_intsT, hsz] at e ⊢
  rw [e]
  simp [bind_ok, bind_exc, st_ok, st_exc, seq_nx, seq_rt, seq_bk, seq_ct, seq_exc, turn_nx, turn_ct, turn_bk, turn_rt, turn_exc, mk_true, mk_false, runS_rt, runS_nx, runS_exc, forL_nil, get_off, get_off0, set_off, set_off0, take_len,  sSeq, sIf, sSkip, sRet, sDrop, sAsg, sFor, sGhost, tFreeze, fTest, fBin, fUn, fCall, fCons, fNil, fVar, fC, fAnd, fOr, fNot, fIf, fLst, fTup, fChain, fAndV, fOrV, gNot, allV, g1, g2, gc1, gc2, Sl.get, okV, gNm, gUnp, gUnpL, gsNil, gsCons,  fSeq, fRng1, fRng2, fEnum, fComp, fYes, CT.put, setAll, wipeE, fMeth, isLst, lstAt, appendG, extendG, popG, popAtG, reverseG, countG, fNo, fPart, fSl, slF, revF, addF, subF, mulF, fdivF, modF, powF, ordF, negF, isNonF, isF, absF, max2F, min2F, int1F, lenF, listF, tupleF, sumF, maxF, minF, ixF,  gSubF, setL, sPar, sAug, runC, lift, pureOf, getAll, allVB, D.nol, D.nolL, startE, isiF, tyName, clsL, clsNm, isiB, eqF_int, neF_int, eqF_ints, neF_ints, eqF_intsT, neF_intsT]
theorem pr_sort (w : List Int) : sortD ((prs w).map fun p => .tup [.int p.1, .int (p.2 : Nat)]) = ((prs w).mergeSort fun a b => decide (a.1 < b.1 ∨ (a.1 = b.1 ∧ a.2 ≤ b.2))).map fun p => .tup [.int p.1, .int (p.2 : Nat)] := by
  unfold sortD
  rw [List.map_mergeSort]
  intro a _ b _
  have h := congrFun (congrFun (PySem.W.dataLe_ii (fun p : Int × Nat => p.1) (fun p => (p.2 : Int))) a) b
  have e : PySem.W.dataLe false D.py (.tup [.int a.1, .int (a.2 : Nat)]) (.tup [.int b.1, .int (b.2 : Nat)]) = PySem.W.dataLe false (fun p : Int × Nat => PyData.tuple [.int p.1, .int (p.2 : Int)]) a b := by
    rw [PySem.W.dataLe_eq, PySem.W.dataLe_eq]
    simp only [D.py, D.pyL]
  rw [e, h]
  simp only [Int.ofNat_le, Int.ofNat_inj]
def srt (w : List Int) : List (Int × Nat) := (prs w).mergeSort fun a b => decide (a.1 < b.1 ∨ (a.1 = b.1 ∧ a.2 ≤ b.2))
theorem srt_perm (w : List Int) : (srt w).Perm (prs w) := List.mergeSort_perm _ _
theorem prs_nodup (w : List Int) : (prs w).Nodup := by
  unfold prs
  refine List.pairwise_iff_getElem.mpr fun i j hi hj hij e => ?_
  rw [List.getElem_zipIdx, List.getElem_zipIdx] at e
  have := congrArg Prod.snd e
  simp at this
  omega
theorem srt_pw (w : List Int) : (srt w).Pairwise fun a b => lx a b = true := by
  have h1 : (srt w).Pairwise fun a b => decide (a.1 < b.1 ∨ (a.1 = b.1 ∧ a.2 ≤ b.2)) = true := List.pairwise_mergeSort (fun a b c => by simp only [decide_eq_true_eq]; omega) (fun a b => by simp only [Bool.or_eq_true, decide_eq_true_eq]; omega) _
  have h2 : (srt w).Nodup := (srt_perm w).nodup_iff.mpr (prs_nodup w)
  refine (List.pairwise_and_iff.mpr ⟨h1, h2⟩).imp ?_
  intro a b ⟨p, q⟩
  unfold lx
  simp only [decide_eq_true_eq] at p ⊢
  have : ¬ (a.1 = b.1 ∧ a.2 = b.2) := fun ⟨x, y⟩ => q (Prod.ext x y)
  omega
def prD (p : Int × Nat) : D := .tup [.int p.1, .int (p.2 : Nat)]
theorem prD_py (p : Int × Nat) : (prD p).py = .tuple [.int p.1, .int (p.2 : Nat)] := by simp [prD, D.py, D.pyL]
theorem pr_ok (w : List Int) : sortOk ((prs w).map prD) = true := by
  unfold sortOk
  simp only [List.all_map, Bool.and_eq_true, Bool.or_eq_true]
  refine ⟨List.all_eq_true.mpr fun p _ => shp_ok (shp_mono (shp_tup (n := 0) fun d m => ?_) (by decide)), List.all_eq_true.mpr fun p _ => List.all_eq_true.mpr fun q _ => ?_, .inl (List.all_eq_true.mpr fun p _ => ?_)⟩
  · simp only [List.mem_cons, List.not_mem_nil, or_false] at m
    rcases m with rfl | rfl <;> exact shp_int _ _
  · show PySem.W.alike (prD p).py (prD q).py = true
    rw [prD_py, prD_py]
    simp [PySem.W.alike, PySem.W.alikeAll]
  · simp [prD, D.py, D.pyL, isTN]
theorem enum_get' {ds : List D} {i : Nat} {d : D} (h : (enumD 0 ds)[i]? = some d) : ∃ x, ds[i]? = some x ∧ d = .tup [.int (i : Nat), x] := by
  rw [enumD_get] at h
  cases q : ds[i]? with
  | none => rw [q] at h; cases h
  | some x =>
    rw [q] at h
    cases h
    exact ⟨x, rfl, by simp⟩
theorem enumD_len : ∀ (ds : List D) (k : Nat), (enumD k ds).length = ds.length
  | [], _ => rfl
  | d :: ds, k => by simp [enumD, enumD_len ds]
/-- the list behind i turns: the places of the first i pairs are filled -/
def fil (w : List Int) (i : Nat) : List Int := (List.range w.length).map fun j => if rk w j < i then ((rk w j : Nat) : Int) + 1 else 0
theorem fil_0 (w : List Int) : fil w 0 = List.replicate w.length 0 := by
  unfold fil
  simp [List.map_const']
theorem fil_all (w : List Int) : fil w w.length = std w := by
  unfold fil std
  refine List.map_congr_left fun j hj => ?_
  have hj' : j < w.length := by simpa using hj
  have : rk w j < w.length := by
    unfold rk
    rw [List.getElem?_eq_getElem hj']
    show rnk (prs w) (w[j], j) < w.length
    have h1 := countP_lt (p := fun y => lx y (w[j], j)) (q := fun _ => true) (l := prs w) (x := (w[j], j)) (fun _ _ => rfl) (prs_mem hj') (lx_irr _) rfl
    rw [List.countP_true, prs_len] at h1
    exact h1
  rw [if_pos this]
theorem fil_succ (w : List Int) {n : Nat} {x : Int × Nat} (h : (srt w)[n]? = some x) : (fil w n).set x.2 ((n : Int) + 1) = fil w (n + 1) ∧ x.2 < w.length := by
  have hr : rnk (prs w) x = n := sorted_rank (srt_perm w) (srt_pw w) h
  have hm : x ∈ prs w := (srt_perm w).mem_iff.mp (List.mem_of_getElem? h)
  have hx : w[x.2]? = some x.1 := by
    unfold prs at hm
    exact List.mem_zipIdx_iff_getElem?.mp hm
  have hl : x.2 < w.length := (List.getElem?_eq_some_iff.mp hx).1
  refine ⟨List.ext_getElem? fun j => ?_, hl⟩
  by_cases hj : j < w.length
  · by_cases e : x.2 = j
    · subst e
      rw [List.getElem?_set_self (by unfold fil; simpa using hl)]
      unfold fil
      have : rk w x.2 = n := by unfold rk; rw [hx]; exact hr
      simp [hl, this]
    · rw [List.getElem?_set_ne e]
      unfold fil
      have : rk w j ≠ n := fun z => by
        unfold rk at z
        rw [List.getElem?_eq_getElem hj] at z
        have z2 : rnk (prs w) (w[j], j) = rnk (prs w) x := by rw [hr]; exact z
        have ne : (w[j], j) ≠ x := fun q => e (by rw [← q])
        have a1 := rnk_iff (prs_mem hj) hm ne
        have a2 := rnk_iff hm (prs_mem hj) (Ne.symm ne)
        have b1 : lx (w[j], j) x = false := by cases q : lx (w[j], j) x with | false => rfl | true => have := a1.mpr q; omega
        have b2 : lx x (w[j], j) = false := by cases q : lx x (w[j], j) with | false => rfl | true => have := a2.mpr q; omega
        unfold lx at b1 b2
        simp only [decide_eq_false_iff_not] at b1 b2
        exact ne (Prod.ext (by simp; omega) (by simp; omega))
      simp [hj]
      by_cases q : rk w j < n
      · rw [if_pos q, if_pos (by omega)]
      · rw [if_neg q, if_neg (by omega)]
  · rw [List.getElem?_eq_none (by unfold fil; simp; omega), List.getElem?_eq_none (by unfold fil; simp; omega)]
theorem standard_eq (w : List Int) (hw : w.length ≤ 1000) (μ : Store) : m_standard_word [.v (Wd w)] μ = .ok (.v (Wd (std w))) μ := by
  have hlim : lim = 16777216 := rfl
  have hsz : w.length < 2305843009213693952 := by omega
  have hsz2 : w.length < 4611686018427387904 := by omega
  have cm := cloop_map (t := .nm 5) (fe := fTup (fCons (fBin (fVar 0) (fVar 5) (g2 ixF)) (fCons (fVar 5) fNil))) (ρ := [some (.v (Wd w)), none, none, none, none, none]) (μ := []) (fun d => match d with | .int i => .tup [.int (w.getD i.toNat 0), .int i] | d => d) (rangeD 0 w.length) (by rw [rangeD_len]; omega) (fun d m => by
    obtain ⟨i, hi⟩ := List.getElem?_of_mem m
    obtain ⟨hlt, rfl⟩ := rangeD_get hi
    have ga := atI_map_int w i hlt
    have gd : w[i]?.getD 0 = w[i] := by simp [hlt]
    exact ⟨_, rfl, by simp [bind_ok, bind_exc, st_ok, st_exc, seq_nx, seq_rt, seq_bk, seq_ct, seq_exc, turn_nx, turn_ct, turn_bk, turn_rt, turn_exc, mk_true, mk_false, runS_rt, runS_nx, runS_exc, forL_nil, get_off, get_off0, set_off, set_off0, take_len,  sSeq, sIf, sSkip, sRet, sDrop, sAsg, sFor, sGhost, tFreeze, fTest, fBin, fUn, fCall, fCons, fNil, fVar, fC, fAnd, fOr, fNot, fIf, fLst, fTup, fChain, fAndV, fOrV, gNot, allV, g1, g2, gc1, gc2, Sl.get, okV, gNm, gUnp, gUnpL, gsNil, gsCons,  fSeq, fRng1, fRng2, fEnum, fComp, fYes, CT.put, setAll, wipeE, fMeth, isLst, lstAt, appendG, extendG, popG, popAtG, reverseG, countG, fNo, fPart, fSl, slF, revF, addF, subF, mulF, fdivF, modF, powF, ordF, negF, isNonF, isF, absF, max2F, min2F, int1F, lenF, listF, tupleF, sumF, maxF, minF, ixF,  gSubF, setL, sPar, sAug, runC, lift, pureOf, getAll, allVB, D.nol, D.nolL, startE, isiF, tyName, clsL, clsNm, isiB, eqF_int, neF_int, eqF_ints, neF_ints, eqF_intsT, neF_intsT, ga, gd]⟩)
  have e0 : ((rangeD 0 w.length).map fun d => match d with | .int i => .tup [.int (w.getD i.toNat 0), .int i] | d => d) = (prs w).map prD := by
    refine List.ext_getElem? fun j => ?_
    by_cases hj : j < w.length
    · rw [List.getElem?_map, List.getElem?_map, prs_get hj]
      simp [rangeD, hj, prD]
    · rw [List.getElem?_eq_none (by simp [rangeD]; omega), List.getElem?_eq_none (by rw [List.length_map, prs_len]; omega)]
  rw [e0] at cm
  have so := pr_ok w
  have ps : sortD ((prs w).map prD) = (srt w).map prD := pr_sort w
  obtain ⟨ρ', μ', e, o3, o4, o5, rfl, rfl⟩ := forL_inv (tg := gUnp 2 (gsCons (gNm 3) (gsCons (gNm 4) gsNil))) (body := b_standard_word_1) (ds := enumD 0 ((srt w).map prD)) (ρ := [some (.v (Wd w)), some (.v (.lst ((srt w).map prD))), some (.c 0), none, none, none]) (μ := [some (Wd (fil w 0))])
    (fun i ρ μ => ∃ o3 o4 o5, ρ = [some (.v (Wd w)), some (.v (.lst ((srt w).map prD))), some (.c 0), o3, o4, o5] ∧ μ = [some (Wd (fil w i))]) ⟨none, none, none, rfl, rfl⟩ (fun i d ρ μ hd ⟨o3, o4, o5, e1, e2⟩ => by
      obtain ⟨x, hx, rfl⟩ := enum_get' hd
      rw [List.getElem?_map] at hx
      cases q : (srt w)[i]? with
      | none => rw [q] at hx; cases hx
      | some y =>
        rw [q] at hx
        cases hx
        subst e1 e2
        obtain ⟨f1, f2⟩ := fil_succ w q
        have fl : (fil w i).length = w.length := by unfold fil; simp
        have ix : ixN (List.length (fil w i)) (y.2 : Int) = some y.2 := by
          unfold ixN
          rw [if_pos (by omega), if_pos (by omega)]
          simp
        have at1 : atI [D.int y.1, D.int (y.2 : Nat)] 1 = some (.int (y.2 : Nat)) := rfl
        have nb : y.2 < 4611686018427387904 := by omega
        refine ⟨_, _, _, _, by simp [bind_ok, bind_exc, st_ok, st_exc, seq_nx, seq_rt, seq_bk, seq_ct, seq_exc, turn_nx, turn_ct, turn_bk, turn_rt, turn_exc, mk_true, mk_false, runS_rt, runS_nx, runS_exc, forL_nil, get_off, get_off0, set_off, set_off0, take_len,  sSeq, sIf, sSkip, sRet, sDrop, sAsg, sFor, sGhost, tFreeze, fTest, fBin, fUn, fCall, fCons, fNil, fVar, fC, fAnd, fOr, fNot, fIf, fLst, fTup, fChain, fAndV, fOrV, gNot, allV, g1, g2, gc1, gc2, Sl.get, okV, gNm, gUnp, gUnpL, gsNil, gsCons,  fSeq, fRng1, fRng2, fEnum, fComp, fYes, CT.put, setAll, wipeE, fMeth, isLst, lstAt, appendG, extendG, popG, popAtG, reverseG, countG, fNo, fPart, fSl, slF, revF, addF, subF, mulF, fdivF, modF, powF, ordF, negF, isNonF, isF, absF, max2F, min2F, int1F, lenF, listF, tupleF, sumF, maxF, minF, ixF,  gSubF, setL, sPar, sAug, runC, lift, pureOf, getAll, allVB, D.nol, D.nolL, startE, isiF, tyName, clsL, clsNm, isiB, eqF_int, neF_int, eqF_ints, neF_ints, eqF_intsT, neF_intsT]; exact ⟨rfl, rfl⟩, ?_, some (.v (.int (i : Nat))), some (.v (prD y)), o5, rfl, rfl⟩
        rw [← f1]
        simp [b_standard_word_1, bind_ok, bind_exc, st_ok, st_exc, seq_nx, seq_rt, seq_bk, seq_ct, seq_exc, turn_nx, turn_ct, turn_bk, turn_rt, turn_exc, mk_true, mk_false, runS_rt, runS_nx, runS_exc, forL_nil, get_off, get_off0, set_off, set_off0, take_len,  sSeq, sIf, sSkip, sRet, sDrop, sAsg, sFor, sGhost, tFreeze, fTest, fBin, fUn, fCall, fCons, fNil, fVar, fC, fAnd, fOr, fNot, fIf, fLst, fTup, fChain, fAndV, fOrV, gNot, allV, g1, g2, gc1, gc2, Sl.get, okV, gNm, gUnp, gUnpL, gsNil, gsCons,  fSeq, fRng1, fRng2, fEnum, fComp, fYes, CT.put, setAll, wipeE, fMeth, isLst, lstAt, appendG, extendG, popG, popAtG, reverseG, countG, fNo, fPart, fSl, slF, revF, addF, subF, mulF, fdivF, modF, powF, ordF, negF, isNonF, isF, absF, max2F, min2F, int1F, lenF, listF, tupleF, sumF, maxF, minF, ixF,  gSubF, setL, sPar, sAug, runC, lift, pureOf, getAll, allVB, D.nol, D.nolL, startE, isiF, tyName, clsL, clsNm, isiB, eqF_int, neF_int, eqF_ints, neF_ints, eqF_intsT, neF_intsT, prD, at1, ix]
)
  rw [enumD_len, List.length_map, (srt_perm w).length_eq, prs_len, fil_all] at e
  rw [fil_0] at e
  have e4 : Wd (List.replicate w.length 0) = D.lst (List.replicate w.length (D.int 0)) := by simp
  rw [e4] at e
  simp only [m_standard_word, b_standard_word]
  have e3 : (List.replicate w.length [D.int 0]).flatten = (List.replicate w.length (0 : Int)).map .int := by
    generalize w.length = n
    induction n with
    | zero => rfl
    | succ n ih => rw [List.replicate_succ, List.replicate_succ, List.flatten_cons, ih]; rfl
  have l2 : w.length ≤ lim := by omega
  simp [bind_ok, bind_exc, st_ok, st_exc, seq_nx, seq_rt, seq_bk, seq_ct, seq_exc, turn_nx, turn_ct, turn_bk, turn_rt, turn_exc, mk_true, mk_false, runS_rt, runS_nx, runS_exc, forL_nil, get_off, get_off0, set_off, set_off0, take_len,  sSeq, sIf, sSkip, sRet, sDrop, sAsg, sFor, sGhost, tFreeze, fTest, fBin, fUn, fCall, fCons, fNil, fVar, fC, fAnd, fOr, fNot, fIf, fLst, fTup, fChain, fAndV, fOrV, gNot, allV, g1, g2, gc1, gc2, Sl.get, okV, gNm, gUnp, gUnpL, gsNil, gsCons,  fSeq, fRng1, fRng2, fEnum, fComp, fYes, CT.put, setAll, wipeE, fMeth, isLst, lstAt, appendG, extendG, popG, popAtG, reverseG, countG, fNo, fPart, fSl, slF, revF, addF, subF, mulF, fdivF, modF, powF, ordF, negF, isNonF, isF, absF, max2F, min2F, int1F, lenF, listF, tupleF, sumF, maxF, minF, ixF,  gSubF, setL, sPar, sAug, runC, lift, pureOf, getAll, allVB, D.nol, D.nolL, startE, isiF, tyName, clsL, clsNm, isiB, eqF_int, neF_int, eqF_ints, neF_ints, eqF_intsT, neF_intsT, sortF, hsz, hsz2, l2, e3, cm, so, ps] at e ⊢
  rw [e]
  simp [bind_ok, bind_exc, st_ok, st_exc, seq_nx, seq_rt, seq_bk, seq_ct, seq_exc, turn_nx, turn_ct, turn_bk, turn_rt, turn_exc, mk_true, mk_false, runS_rt, runS_nx, runS_exc, forL_nil, get_off, get_off0, set_off, set_off0, take_len,  sSeq, sIf, sSkip, sRet, sDrop, sAsg, sFor, sGhost, tFreeze, fTest, fBin, fUn, fCall, fCons, fNil, fVar, fC, fAnd, fOr, fNot, fIf, fLst, fTup, fChain, fAndV, fOrV, gNot, allV, g1, g2, gc1, gc2, Sl.get, okV, gNm, gUnp, gUnpL, gsNil, gsCons,  fSeq, fRng1, fRng2, fEnum, fComp, fYes, CT.put, setAll, wipeE, fMeth, isLst, lstAt, appendG, extendG, popG, popAtG, reverseG, countG, fNo, fPart, fSl, slF, revF, addF, subF, mulF, fdivF, modF, powF, ordF, negF, isNonF, isF, absF, max2F, min2F, int1F, lenF, listF, tupleF, sumF, maxF, minF, ixF,  gSubF, setL, sPar, sAug, runC, lift, pureOf, getAll, allVB, D.nol, D.nolL, startE, isiF, tyName, clsL, clsNm, isiB, eqF_int, neF_int, eqF_ints, neF_ints, eqF_intsT, neF_intsT]
end k13

namespace k13
open PySem PySem.Spec PyProof.Rows L2 DL
theorem word_loop (o1 : Option Sl) (m : Int) (hm : m ≠ 0) (ν : Store) : ∀ (ds : List D) (deck acc : List Int), acc.length + ds.length ≤ lim → (∀ d ∈ ds, ∃ i, d = .int i) →
    ∃ acc' deck' : List Int, cLoop (.nm 2) fYes (fBin (fC (.int 1)) (fCall m_take (fCons (fVar 0) (fCons (fVar 1) fNil))) (g2 (addF false))) [some (.c 0), some (.v (.int m)), none] ds (some (Wd deck) :: ν) (acc.map .int) = .ok (acc'.map .int) (some (Wd deck') :: ν) ∧ acc'.length = acc.length + ds.length
  | [], deck, acc, _, _ => ⟨acc, deck, rfl, rfl⟩
  | d :: ds, deck, acc, hl, hd => by
    obtain ⟨i, rfl⟩ := hd d List.mem_cons_self
    have tq := take_eq deck m hm ν
    rw [List.length_cons] at hl
    obtain ⟨acc', deck', e, h⟩ := word_loop o1 m hm ν ds deck.dropLast (acc ++ [1 + tk deck m]) (by rw [List.length_append, List.length_singleton]; omega) (fun d h => hd d (List.mem_cons_of_mem _ h))
    refine ⟨acc', deck', ?_, by rw [h, List.length_append, List.length_singleton, List.length_cons]; omega⟩
    rw [← e]
    have hlt : acc.length < lim := by omega
    rw [cLoop]
    simp [bind_ok, bind_exc, st_ok, st_exc, seq_nx, seq_rt, seq_bk, seq_ct, seq_exc, turn_nx, turn_ct, turn_bk, turn_rt, turn_exc, mk_true, mk_false, runS_rt, runS_nx, runS_exc, forL_nil, get_off, get_off0, set_off, set_off0, take_len,  sSeq, sIf, sSkip, sRet, sDrop, sAsg, sFor, sGhost, tFreeze, fTest, fBin, fUn, fCall, fCons, fNil, fVar, fC, fAnd, fOr, fNot, fIf, fLst, fTup, fChain, fAndV, fOrV, gNot, allV, g1, g2, gc1, gc2, Sl.get, okV, gNm, gUnp, gUnpL, gsNil, gsCons,  fSeq, fRng1, fRng2, fEnum, fComp, fYes, CT.put, setAll, wipeE, fMeth, isLst, lstAt, appendG, extendG, popG, popAtG, reverseG, countG, fNo, fPart, fSl, slF, revF, addF, subF, mulF, fdivF, modF, powF, ordF, negF, isNonF, isF, absF, max2F, min2F, int1F, lenF, listF, tupleF, sumF, maxF, minF, ixF,  gSubF, setL, sPar, sAug, runC, lift, pureOf, getAll, allVB, D.nol, D.nolL, startE, isiF, tyName, clsL, clsNm, isiB, eqF_int, neF_int, eqF_ints, neF_ints, eqF_intsT, neF_intsT, Wd, tq, hlt]
theorem word_eq (deck : List Int) (ν : Store) : ∃ w deck' : List Int, m__law_word [.c 0] (some (Wd deck) :: ν) = .ok (.v (Wd w)) (some (Wd deck') :: ν) ∧ w.length ≤ 12 := by
  have hlim : lim = 16777216 := rfl
  have t1 := take_eq deck 3 (by decide) ν
  have t2 := take_eq deck.dropLast 13 (by decide) ν
  have a1 := tk_nonneg deck (k := 3) (by decide)
  have a2 := tk_lt deck (k := 3) (by decide)
  have b1 := tk_nonneg deck.dropLast (k := 13) (by decide)
  have b2 := tk_lt deck.dropLast (k := 13) (by decide)
  have hm : ∃ m : Int, atI [D.int 2, D.int 4, D.int 6] (tk deck 3) = some (.int m) ∧ m ≠ 0 := by
    generalize tk deck 3 = x at *
    have : x = 0 ∨ x = 1 ∨ x = 2 := by omega
    rcases this with rfl | rfl | rfl
    · exact ⟨2, rfl, by decide⟩
    · exact ⟨4, rfl, by decide⟩
    · exact ⟨6, rfl, by decide⟩
  obtain ⟨m, hm, hm0⟩ := hm
  obtain ⟨n, hn⟩ : ∃ n : Nat, tk deck.dropLast 13 = n := ⟨(tk deck.dropLast 13).toNat, by omega⟩
  rw [hn] at t2 b2
  have hsz : n < 2305843009213693952 := by omega
  obtain ⟨w, deck', e, h⟩ := word_loop none m hm0 ν (rangeD 0 n) deck.dropLast.dropLast [] (by rw [rangeD_len]; simp; omega) (fun d hd => by
    obtain ⟨i, hi⟩ := List.getElem?_of_mem hd
    exact ⟨_, (rangeD_get hi).2⟩)
  rw [rangeD_len] at h
  refine ⟨w, deck', ?_, by rw [h]; simp; omega⟩
  simp only [m__law_word, b__law_word]
  simp [Wd] at t1 t2 e
  simp [bind_ok, bind_exc, st_ok, st_exc, seq_nx, seq_rt, seq_bk, seq_ct, seq_exc, turn_nx, turn_ct, turn_bk, turn_rt, turn_exc, mk_true, mk_false, runS_rt, runS_nx, runS_exc, forL_nil, get_off, get_off0, set_off, set_off0, take_len,  sSeq, sIf, sSkip, sRet, sDrop, sAsg, sFor, sGhost, tFreeze, fTest, fBin, fUn, fCall, fCons, fNil, fVar, fC, fAnd, fOr, fNot, fIf, fLst, fTup, fChain, fAndV, fOrV, gNot, allV, g1, g2, gc1, gc2, Sl.get, okV, gNm, gUnp, gUnpL, gsNil, gsCons,  fSeq, fRng1, fRng2, fEnum, fComp, fYes, CT.put, setAll, wipeE, fMeth, isLst, lstAt, appendG, extendG, popG, popAtG, reverseG, countG, fNo, fPart, fSl, slF, revF, addF, subF, mulF, fdivF, modF, powF, ordF, negF, isNonF, isF, absF, max2F, min2F, int1F, lenF, listF, tupleF, sumF, maxF, minF, ixF,  gSubF, setL, sPar, sAug, runC, lift, pureOf, getAll, allVB, D.nol, D.nolL, startE, isiF, tyName, clsL, clsNm, isiB, eqF_int, neF_int, eqF_ints, neF_ints, eqF_intsT, neF_intsT, Wd, t1, t2, hm, hsz, e]
theorem pl_ints (u : List Int) (hu : u.length ≤ 1000) (n : Nat) : Pl (n + 1) (Wd u) := .lst (fun d m => by
  obtain ⟨i, _, rfl⟩ := List.mem_map.mp m
  exact .int i) (by rw [List.length_map]; have : lim = 16777216 := rfl; omega)
theorem pl_told (o : Option (List Int)) (h : ∀ u, o = some u → u.length ≤ 1000) : Pl 1 (toldD o) := by
  cases o with
  | some u => exact pl_ints u (h u rfl) 0
  | none => exact .tup (fun d m => by
      simp only [List.mem_cons, List.not_mem_nil, or_false] at m
      rcases m with rfl | rfl
      · exact .str lay_invalid
      · exact .str lay_step) (by decide)
theorem plain_ne {n : Nat} {d : D} (h : Pl n d) (hn : n < 63) {μ : Store} : neF (plainD d) (plainD d) μ = .ok (.v (.bl false)) μ := neF_self (shp_mono h.plain (by omega))
/-- one place -/
theorem law_3 (f : Bool) (p : Int) (w deck : List Int) (acc : List D) (ν : Store) (hw : w.length ≤ 100) (ha : acc.length ≤ 10000) (s0 o2 o7 o8 o9 oA oB oC oD' oE oF oG oH oI oJ oK : Option Sl) :
    ∃ o7' o8' o9', b_law_3 [s0, some (.c 0), o2, some (.v (Wd w)), some (.c (ν.length + 1)), some (.v (.str (kn f))), some (.v (.int p)), o7, o8, o9, oA, oB, oC, oD', oE, oF, oG, oH, oI, oJ, oK] (some (Wd deck) :: (ν ++ [some (.lst acc)])) =
      .go .nx [s0, some (.c 0), o2, some (.v (Wd w)), some (.c (ν.length + 1)), some (.v (.str (kn f))), some (.v (.int p)), o7', o8', o9', oA, oB, oC, oD', oE, oF, oG, oH, oI, oJ, oK] (some (Wd deck) :: (ν ++ [some (.lst (acc ++ if (mv f p w).isSome = true then [stp f p] else []))])) := by
  have hlim : lim = 16777216 := rfl
  have m1 := fun μ => made_eq f p w (by omega) μ
  have m2 := fun μ => told_eq f p w (by omega) μ
  have m3 := fun k (hk : 1 < k) μ => plain_eq (pl_told (mv f p w) fun u h => by rw [mv_len h]; omega) k hk μ
  have m4 := fun μ => plain_ne (pl_told (mv f p w) fun u h => by rw [mv_len h]; omega) (by omega) (μ := μ)
  have m5 := fun μ => m3 4 (by omega) μ
  cases q : mv f p w with
  | none =>
    rw [q] at m4 m5
    simp only [q] at m1 m2
    refine ⟨some (.v .non), some (.v (Wd w)), some (.v (toldD none)), ?_⟩
    simp only [stp] at m1 m2
    simp [toldD, Wd, oD] at m1 m2 m4 m5
    simp [b_law_3, bind_ok, bind_exc, st_ok, st_exc, seq_nx, seq_rt, seq_bk, seq_ct, seq_exc, turn_nx, turn_ct, turn_bk, turn_rt, turn_exc, mk_true, mk_false, runS_rt, runS_nx, runS_exc, forL_nil, get_off, get_off0, set_off, set_off0, take_len,  sSeq, sIf, sSkip, sRet, sDrop, sAsg, sFor, sGhost, tFreeze, fTest, fBin, fUn, fCall, fCons, fNil, fVar, fC, fAnd, fOr, fNot, fIf, fLst, fTup, fChain, fAndV, fOrV, gNot, allV, g1, g2, gc1, gc2, Sl.get, okV, gNm, gUnp, gUnpL, gsNil, gsCons,  fSeq, fRng1, fRng2, fEnum, fComp, fYes, CT.put, setAll, wipeE, fMeth, isLst, lstAt, appendG, extendG, popG, popAtG, reverseG, countG, fNo, fPart, fSl, slF, revF, addF, subF, mulF, fdivF, modF, powF, ordF, negF, isNonF, isF, absF, max2F, min2F, int1F, lenF, listF, tupleF, sumF, maxF, minF, ixF,  gSubF, setL, sPar, sAug, runC, lift, pureOf, getAll, allVB, D.nol, D.nolL, startE, isiF, tyName, clsL, clsNm, isiB, eqF_int, neF_int, eqF_ints, neF_ints, eqF_intsT, neF_intsT, Wd, m1, m2, m4, m5, oD, toldD]
  | some u =>
    have hu : u.length ≤ 1000 := by rw [mv_len q]; omega
    have m6 := fun μ => told_eq f p u hu μ
    rw [mv_back q] at m6
    rw [q] at m4 m5
    simp only [q] at m1 m2
    have hla : acc.length < lim := by omega
    refine ⟨some (.v (Wd u)), some (.v (Wd w)), some (.v (Wd u)), ?_⟩
    simp only [stp] at m1 m2 m6
    simp [toldD, Wd, oD] at m1 m2 m4 m5 m6
    simp [b_law_3, bind_ok, bind_exc, st_ok, st_exc, seq_nx, seq_rt, seq_bk, seq_ct, seq_exc, turn_nx, turn_ct, turn_bk, turn_rt, turn_exc, mk_true, mk_false, runS_rt, runS_nx, runS_exc, forL_nil, get_off, get_off0, set_off, set_off0, take_len,  sSeq, sIf, sSkip, sRet, sDrop, sAsg, sFor, sGhost, tFreeze, fTest, fBin, fUn, fCall, fCons, fNil, fVar, fC, fAnd, fOr, fNot, fIf, fLst, fTup, fChain, fAndV, fOrV, gNot, allV, g1, g2, gc1, gc2, Sl.get, okV, gNm, gUnp, gUnpL, gsNil, gsCons,  fSeq, fRng1, fRng2, fEnum, fComp, fYes, CT.put, setAll, wipeE, fMeth, isLst, lstAt, appendG, extendG, popG, popAtG, reverseG, countG, fNo, fPart, fSl, slF, revF, addF, subF, mulF, fdivF, modF, powF, ordF, negF, isNonF, isF, absF, max2F, min2F, int1F, lenF, listF, tupleF, sumF, maxF, minF, ixF,  gSubF, setL, sPar, sAug, runC, lift, pureOf, getAll, allVB, D.nol, D.nolL, startE, isiF, tyName, clsL, clsNm, isiB, eqF_int, neF_int, eqF_ints, neF_ints, eqF_intsT, neF_intsT, Wd, m1, m2, m4, m5, m6, oD, hla, stp]
theorem law_4 (f : Bool) (w deck : List Int) (acc : List D) (ν : Store) (hw : w.length ≤ 100) (ha : acc.length ≤ 9000) (s0 o2 o6 o7 o8 o9 oA oB oC oD' oE oF oG oH oI oJ oK : Option Sl) :
    ∃ o6' o7' o8' o9', b_law_4 [s0, some (.c 0), o2, some (.v (Wd w)), some (.c (ν.length + 1)), some (.v (.str (kn f))), o6, o7, o8, o9, oA, oB, oC, oD', oE, oF, oG, oH, oI, oJ, oK] (some (Wd deck) :: (ν ++ [some (.lst acc)])) =
      .go .nx [s0, some (.c 0), o2, some (.v (Wd w)), some (.c (ν.length + 1)), some (.v (.str (kn f))), o6', o7', o8', o9', oA, oB, oC, oD', oE, oF, oG, oH, oI, oJ, oK] (some (Wd deck) :: (ν ++ [some (.lst (acc ++ stepsIn f w 0 (w.length - 2)))])) := by
  obtain ⟨ρ', μ', e, o6', o7', o8', o9', rfl, rfl⟩ := forL_inv (tg := gNm 6) (body := b_law_3) (ds := rangeD (-2) (w.length + 4)) (ρ := [s0, some (.c 0), o2, some (.v (Wd w)), some (.c (ν.length + 1)), some (.v (.str (kn f))), o6, o7, o8, o9, oA, oB, oC, oD', oE, oF, oG, oH, oI, oJ, oK]) (μ := some (Wd deck) :: (ν ++ [some (.lst acc)]))
    (fun i ρ μ => ∃ o6 o7 o8 o9, ρ = [s0, some (.c 0), o2, some (.v (Wd w)), some (.c (ν.length + 1)), some (.v (.str (kn f))), o6, o7, o8, o9, oA, oB, oC, oD', oE, oF, oG, oH, oI, oJ, oK] ∧ μ = some (Wd deck) :: (ν ++ [some (.lst (acc ++ stepsIn f w (-2) i))]))
    ⟨o6, o7, o8, o9, rfl, by simp [stepsIn]⟩ (fun i d ρ μ hd ⟨o6, o7, o8, o9, e1, e2⟩ => by
      obtain ⟨hi, rfl⟩ := rangeD_get hd
      subst e1 e2
      have hl := steps_len f w (-2) i
      obtain ⟨a, b, c, e⟩ := law_3 f (-2 + (i : Nat)) w deck (acc ++ stepsIn f w (-2) i) ν hw (by rw [List.length_append]; omega) s0 o2 o7 o8 o9 oA oB oC oD' oE oF oG oH oI oJ oK
      refine ⟨_, _, _, _, rfl, e, some (.v (.int (-2 + (i : Nat)))), a, b, c, rfl, ?_⟩
      rw [steps_succ, List.append_assoc])
  rw [rangeD_len, steps_wide] at e
  refine ⟨o6', o7', o8', o9', ?_⟩
  have e1 : ((w.length : Int) + 2 - -2).toNat = w.length + 4 := by omega
  have e2 : ((w.length : Int) + 2).natAbs < 2305843009213693952 := by omega
  simp only [b_law_4]
  simp [bind_ok, bind_exc, st_ok, st_exc, seq_nx, seq_rt, seq_bk, seq_ct, seq_exc, turn_nx, turn_ct, turn_bk, turn_rt, turn_exc, mk_true, mk_false, runS_rt, runS_nx, runS_exc, forL_nil, get_off, get_off0, set_off, set_off0, take_len,  sSeq, sIf, sSkip, sRet, sDrop, sAsg, sFor, sGhost, tFreeze, fTest, fBin, fUn, fCall, fCons, fNil, fVar, fC, fAnd, fOr, fNot, fIf, fLst, fTup, fChain, fAndV, fOrV, gNot, allV, g1, g2, gc1, gc2, Sl.get, okV, gNm, gUnp, gUnpL, gsNil, gsCons,  fSeq, fRng1, fRng2, fEnum, fComp, fYes, CT.put, setAll, wipeE, fMeth, isLst, lstAt, appendG, extendG, popG, popAtG, reverseG, countG, fNo, fPart, fSl, slF, revF, addF, subF, mulF, fdivF, modF, powF, ordF, negF, isNonF, isF, absF, max2F, min2F, int1F, lenF, listF, tupleF, sumF, maxF, minF, ixF,  gSubF, setL, sPar, sAug, runC, lift, pureOf, getAll, allVB, D.nol, D.nolL, startE, isiF, tyName, clsL, clsNm, isiB, eqF_int, neF_int, eqF_ints, neF_ints, eqF_intsT, neF_intsT, e2] at e ⊢
  simp at e1
  rw [e1, e]
end k13

namespace k13
open PySem PySem.Spec PyProof.Rows L2 DL
def waysL : List SP := (List.range 10).map (fun i : Nat => (true, (i : Int))) ++ (List.range 10).map (fun i : Nat => (false, (i : Int)))
theorem ways_eq (o0 o1 o2 o3 o4 o5 o6 o7 o8 o9 oA oB oC oD' oE oF oG oH oI oJ oK : Option Sl) (μ : Store) :
    fComp false (([("one", 20)] : List (Str × Nat)).map (·.2)) (fSeq (fBin (fComp false (([("at", 18)] : List (Str × Nat)).map (·.2)) (fRng1 (fCons (fC (.int 10)) (fNil))) (CT.nm 18) (fYes) (fTup (fCons (fC (.str "first")) (fCons (fVar 18) (fNil))))) (fComp false (([("at", 18)] : List (Str × Nat)).map (·.2)) (fRng1 (fCons (fC (.int 10)) (fNil))) (CT.nm 18) (fYes) (fTup (fCons (fC (.str "last")) (fCons (fVar 18) (fNil))))) (g2 (addF false)))) (CT.nm 20) (fYes) (fVar 20)
      [o0, o1, o2, o3, o4, o5, o6, o7, o8, o9, oA, oB, oC, oD', oE, oF, oG, oH, oI, oJ, oK] μ = .ok (.v (.lst (waysL.map sD))) μ := by
  have r1 : (rangeD 0 10) = (List.range 10).map fun i => D.int (i : Nat) := by simp [rangeD]
  have c1 := fun (x : Str) => cloop_map (t := .nm 18) (fe := fTup (fCons (fC (.str x)) (fCons (fVar 18) (fNil)))) (ρ := [o0, o1, o2, o3, o4, o5, o6, o7, o8, o9, oA, oB, oC, oD', oE, oF, oG, oH, none, oJ, oK]) (μ := μ) (fun d => .tup [.str x, d]) (rangeD 0 10) (by rw [rangeD_len]; decide) (fun d _ => ⟨_, rfl, by simp [bind_ok, bind_exc, st_ok, st_exc, seq_nx, seq_rt, seq_bk, seq_ct, seq_exc, turn_nx, turn_ct, turn_bk, turn_rt, turn_exc, mk_true, mk_false, runS_rt, runS_nx, runS_exc, forL_nil, get_off, get_off0, set_off, set_off0, take_len,  sSeq, sIf, sSkip, sRet, sDrop, sAsg, sFor, sGhost, tFreeze, fTest, fBin, fUn, fCall, fCons, fNil, fVar, fC, fAnd, fOr, fNot, fIf, fLst, fTup, fChain, fAndV, fOrV, gNot, allV, g1, g2, gc1, gc2, Sl.get, okV, gNm, gUnp, gUnpL, gsNil, gsCons,  fSeq, fRng1, fRng2, fEnum, fComp, fYes, CT.put, setAll, wipeE, fMeth, isLst, lstAt, appendG, extendG, popG, popAtG, reverseG, countG, fNo, fPart, fSl, slF, revF, addF, subF, mulF, fdivF, modF, powF, ordF, negF, isNonF, isF, absF, max2F, min2F, int1F, lenF, listF, tupleF, sumF, maxF, minF, ixF,  gSubF, setL, sPar, sAug, runC, lift, pureOf, getAll, allVB, D.nol, D.nolL, startE, isiF, tyName, clsL, clsNm, isiB, eqF_int, neF_int, eqF_ints, neF_ints, eqF_intsT, neF_intsT]⟩)
  have c2 := cloop_map (t := .nm 20) (fe := fVar 20) (ρ := [o0, o1, o2, o3, o4, o5, o6, o7, o8, o9, oA, oB, oC, oD', oE, oF, oG, oH, oI, oJ, none]) (μ := μ) id ((rangeD 0 10).map (fun d => D.tup [.str "first", d]) ++ (rangeD 0 10).map (fun d => .tup [.str "last", d])) (by simp [rangeD_len]; decide) (fun d _ => ⟨_, rfl, by simp [bind_ok, bind_exc, st_ok, st_exc, seq_nx, seq_rt, seq_bk, seq_ct, seq_exc, turn_nx, turn_ct, turn_bk, turn_rt, turn_exc, mk_true, mk_false, runS_rt, runS_nx, runS_exc, forL_nil, get_off, get_off0, set_off, set_off0, take_len,  sSeq, sIf, sSkip, sRet, sDrop, sAsg, sFor, sGhost, tFreeze, fTest, fBin, fUn, fCall, fCons, fNil, fVar, fC, fAnd, fOr, fNot, fIf, fLst, fTup, fChain, fAndV, fOrV, gNot, allV, g1, g2, gc1, gc2, Sl.get, okV, gNm, gUnp, gUnpL, gsNil, gsCons,  fSeq, fRng1, fRng2, fEnum, fComp, fYes, CT.put, setAll, wipeE, fMeth, isLst, lstAt, appendG, extendG, popG, popAtG, reverseG, countG, fNo, fPart, fSl, slF, revF, addF, subF, mulF, fdivF, modF, powF, ordF, negF, isNonF, isF, absF, max2F, min2F, int1F, lenF, listF, tupleF, sumF, maxF, minF, ixF,  gSubF, setL, sPar, sAug, runC, lift, pureOf, getAll, allVB, D.nol, D.nolL, startE, isiF, tyName, clsL, clsNm, isiB, eqF_int, neF_int, eqF_ints, neF_ints, eqF_intsT, neF_intsT]⟩)
  have e : waysL.map sD = (rangeD 0 10).map (fun d => D.tup [.str "first", d]) ++ (rangeD 0 10).map (fun d => .tup [.str "last", d]) := by
    rw [r1]; simp [waysL, sD, stp, kn, Function.comp_def]
  have l1 : (10 : Nat) + 10 ≤ lim := by decide
  rw [e]
  rw [List.map_id] at c2
  have k1 := c1 "first"
  have k2 := c1 "last"
  have l2 : (20 : Nat) ≤ lim := by decide
  simp [bind_ok, bind_exc, st_ok, st_exc, seq_nx, seq_rt, seq_bk, seq_ct, seq_exc, turn_nx, turn_ct, turn_bk, turn_rt, turn_exc, mk_true, mk_false, runS_rt, runS_nx, runS_exc, forL_nil, get_off, get_off0, set_off, set_off0, take_len,  sSeq, sIf, sSkip, sRet, sDrop, sAsg, sFor, sGhost, tFreeze, fTest, fBin, fUn, fCall, fCons, fNil, fVar, fC, fAnd, fOr, fNot, fIf, fLst, fTup, fChain, fAndV, fOrV, gNot, allV, g1, g2, gc1, gc2, Sl.get, okV, gNm, gUnp, gUnpL, gsNil, gsCons,  fSeq, fRng1, fRng2, fEnum, fComp, fYes, CT.put, setAll, wipeE, fMeth, isLst, lstAt, appendG, extendG, popG, popAtG, reverseG, countG, fNo, fPart, fSl, slF, revF, addF, subF, mulF, fdivF, modF, powF, ordF, negF, isNonF, isF, absF, max2F, min2F, int1F, lenF, listF, tupleF, sumF, maxF, minF, ixF,  gSubF, setL, sPar, sAug, runC, lift, pureOf, getAll, allVB, D.nol, D.nolL, startE, isiF, tyName, clsL, clsNm, isiB, eqF_int, neF_int, eqF_ints, neF_ints, eqF_intsT, neF_intsT, k1, k2, rangeD_len, l2, c2]
theorem goAll_app (ss : List SP) (s : SP) : ∀ w, goAll (ss ++ [s]) w = (goAll ss w).bind (mv s.1 s.2) := by
  induction ss with
  | nil =>
    intro w
    simp only [List.nil_append, goAll]
    cases q : mv s.1 s.2 w <;> simp [q]
  | cons a ss ih =>
    intro w
    simp only [List.cons_append, goAll]
    cases mv a.1 a.2 w with
    | none => rfl
    | some v => exact ih v
/-- a step more -/
theorem law_2 (w u deck : List Int) (ss : List SP) (ν : Store) (a0 : Option D) (hw : w.length ≤ 100) (hs : ss.length ≤ 1000) (hg : goAll ss w = some u) (s0 o2 o4 o5 o6 o7 o8 o9 oA oD' oE oF oG oH oI oJ oK : Option Sl) :
    ∃ (ss' : List SP) (u' deck' : List Int) (oF' oG' : Option Sl), b_law_2 [s0, some (.c 0), o2, some (.v (Wd w)), o4, o5, o6, o7, o8, o9, oA, some (.c (ν.length + 1 + 1)), some (.v (Wd u)), oD', oE, oF, oG, oH, oI, oJ, oK] (some (Wd deck) :: (ν ++ [a0, some (.lst (ss.map sD))])) =
      .go .nx [s0, some (.c 0), o2, some (.v (Wd w)), o4, o5, o6, o7, o8, o9, oA, some (.c (ν.length + 1 + 1)), some (.v (Wd u')), oD', oE, oF', oG', oH, oI, oJ, oK] (some (Wd deck') :: (ν ++ [a0, some (.lst (ss'.map sD))])) ∧ goAll ss' w = some u' ∧ ss'.length ≤ ss.length + 1 := by
  have hlim : lim = 16777216 := rfl
  have hu : u.length ≤ 1000 := by rw [goAll_len hg]; omega
  obtain ⟨fit, hfit⟩ : ∃ fit, fit = waysL.filter fun s => (mv s.1 s.2 u).isSome := ⟨_, rfl⟩
  have wl : waysL.length = 20 := by decide
  have fl : fit.length ≤ 20 := by rw [hfit, ← wl]; exact List.length_filter_le _ _
  have wy := ways_eq s0 (some (.c 0)) o2 (some (.v (Wd w))) o4 o5 o6 o7 o8 o9 oA (some (.c (ν.length + 1 + 1))) (some (.v (Wd u))) oD' oE oF oG oH oI oJ oK (some (Wd deck) :: (ν ++ [a0, some (.lst (ss.map sD))]))
  have cf := cloop_eq (t := .nm 20) (ft := fTest (fUn (fCall m__law_made (fCons (fVar 12) (fCons (fVar 20) fNil))) (isNonF true))) (fe := fVar 20) (ρ := [s0, some (.c 0), o2, some (.v (Wd w)), o4, o5, o6, o7, o8, o9, oA, some (.c (ν.length + 1 + 1)), some (.v (Wd u)), oD', oE, some (.v (.lst (waysL.map sD))), oG, oH, oI, oJ, none]) (μ := some (Wd deck) :: (ν ++ [a0, some (.lst (ss.map sD))]))
    (fun d => match d with | .tup [.str k, .int p] => (mv (k == "first") p u).isSome | _ => false) id (waysL.map sD) [] (by simp [wl]; omega) (fun d m => by
      obtain ⟨⟨f, p⟩, _, rfl⟩ := List.mem_map.mp m
      have h := made_eq f p u hu (some (Wd deck) :: (ν ++ [a0, some (.lst (ss.map sD))]))
      simp only [stp] at h
      simp [Wd] at h
      refine ⟨_, rfl, ?_, fun _ => by simp [bind_ok, bind_exc, st_ok, st_exc, seq_nx, seq_rt, seq_bk, seq_ct, seq_exc, turn_nx, turn_ct, turn_bk, turn_rt, turn_exc, mk_true, mk_false, runS_rt, runS_nx, runS_exc, forL_nil, get_off, get_off0, set_off, set_off0, take_len,  sSeq, sIf, sSkip, sRet, sDrop, sAsg, sFor, sGhost, tFreeze, fTest, fBin, fUn, fCall, fCons, fNil, fVar, fC, fAnd, fOr, fNot, fIf, fLst, fTup, fChain, fAndV, fOrV, gNot, allV, g1, g2, gc1, gc2, Sl.get, okV, gNm, gUnp, gUnpL, gsNil, gsCons,  fSeq, fRng1, fRng2, fEnum, fComp, fYes, CT.put, setAll, wipeE, fMeth, isLst, lstAt, appendG, extendG, popG, popAtG, reverseG, countG, fNo, fPart, fSl, slF, revF, addF, subF, mulF, fdivF, modF, powF, ordF, negF, isNonF, isF, absF, max2F, min2F, int1F, lenF, listF, tupleF, sumF, maxF, minF, ixF,  gSubF, setL, sPar, sAug, runC, lift, pureOf, getAll, allVB, D.nol, D.nolL, startE, isiF, tyName, clsL, clsNm, isiB, eqF_int, neF_int, eqF_ints, neF_ints, eqF_intsT, neF_intsT]⟩
      simp only [sD, stp, kn_first]
      cases q : mv f p u <;> (rw [q] at h; simp [oD, Wd] at h; simp [bind_ok, bind_exc, st_ok, st_exc, seq_nx, seq_rt, seq_bk, seq_ct, seq_exc, turn_nx, turn_ct, turn_bk, turn_rt, turn_exc, mk_true, mk_false, runS_rt, runS_nx, runS_exc, forL_nil, get_off, get_off0, set_off, set_off0, take_len,  sSeq, sIf, sSkip, sRet, sDrop, sAsg, sFor, sGhost, tFreeze, fTest, fBin, fUn, fCall, fCons, fNil, fVar, fC, fAnd, fOr, fNot, fIf, fLst, fTup, fChain, fAndV, fOrV, gNot, allV, g1, g2, gc1, gc2, Sl.get, okV, gNm, gUnp, gUnpL, gsNil, gsCons,  fSeq, fRng1, fRng2, fEnum, fComp, fYes, CT.put, setAll, wipeE, fMeth, isLst, lstAt, appendG, extendG, popG, popAtG, reverseG, countG, fNo, fPart, fSl, slF, revF, addF, subF, mulF, fdivF, modF, powF, ordF, negF, isNonF, isF, absF, max2F, min2F, int1F, lenF, listF, tupleF, sumF, maxF, minF, ixF,  gSubF, setL, sPar, sAug, runC, lift, pureOf, getAll, allVB, D.nol, D.nolL, startE, isiF, tyName, clsL, clsNm, isiB, eqF_int, neF_int, eqF_ints, neF_ints, eqF_intsT, neF_intsT, Wd, h]))
  have ff : ((waysL.map sD).filter (fun d => match d with | .tup [.str k, .int p] => (mv (k == "first") p u).isSome | _ => false)).map id = fit.map sD := by
    rw [List.filter_map, List.map_id, hfit]
    congr 1
  rw [ff, List.nil_append] at cf
  by_cases hz : fit = []
  · refine ⟨ss, u, deck, some (.v (.lst (waysL.map sD))), some (.v (.lst (fit.map sD))), ?_, hg, by omega⟩
    rw [hz] at cf ⊢
    rw [b_law_2]
    simp at wy cf
    simp [bind_ok, bind_exc, st_ok, st_exc, seq_nx, seq_rt, seq_bk, seq_ct, seq_exc, turn_nx, turn_ct, turn_bk, turn_rt, turn_exc, mk_true, mk_false, runS_rt, runS_nx, runS_exc, forL_nil, get_off, get_off0, set_off, set_off0, take_len,  sSeq, sIf, sSkip, sRet, sDrop, sAsg, sFor, sGhost, tFreeze, fTest, fBin, fUn, fCall, fCons, fNil, fVar, fC, fAnd, fOr, fNot, fIf, fLst, fTup, fChain, fAndV, fOrV, gNot, allV, g1, g2, gc1, gc2, Sl.get, okV, gNm, gUnp, gUnpL, gsNil, gsCons,  fSeq, fRng1, fRng2, fEnum, fComp, fYes, CT.put, setAll, wipeE, fMeth, isLst, lstAt, appendG, extendG, popG, popAtG, reverseG, countG, fNo, fPart, fSl, slF, revF, addF, subF, mulF, fdivF, modF, powF, ordF, negF, isNonF, isF, absF, max2F, min2F, int1F, lenF, listF, tupleF, sumF, maxF, minF, ixF,  gSubF, setL, sPar, sAug, runC, lift, pureOf, getAll, allVB, D.nol, D.nolL, startE, isiF, tyName, clsL, clsNm, isiB, eqF_int, neF_int, eqF_ints, neF_ints, eqF_intsT, neF_intsT, Wd] at wy cf
    simp [bind_ok, bind_exc, st_ok, st_exc, seq_nx, seq_rt, seq_bk, seq_ct, seq_exc, turn_nx, turn_ct, turn_bk, turn_rt, turn_exc, mk_true, mk_false, runS_rt, runS_nx, runS_exc, forL_nil, get_off, get_off0, set_off, set_off0, take_len,  sSeq, sIf, sSkip, sRet, sDrop, sAsg, sFor, sGhost, tFreeze, fTest, fBin, fUn, fCall, fCons, fNil, fVar, fC, fAnd, fOr, fNot, fIf, fLst, fTup, fChain, fAndV, fOrV, gNot, allV, g1, g2, gc1, gc2, Sl.get, okV, gNm, gUnp, gUnpL, gsNil, gsCons,  fSeq, fRng1, fRng2, fEnum, fComp, fYes, CT.put, setAll, wipeE, fMeth, isLst, lstAt, appendG, extendG, popG, popAtG, reverseG, countG, fNo, fPart, fSl, slF, revF, addF, subF, mulF, fdivF, modF, powF, ordF, negF, isNonF, isF, absF, max2F, min2F, int1F, lenF, listF, tupleF, sumF, maxF, minF, ixF,  gSubF, setL, sPar, sAug, runC, lift, pureOf, getAll, allVB, D.nol, D.nolL, startE, isiF, tyName, clsL, clsNm, isiB, eqF_int, neF_int, eqF_ints, neF_ints, eqF_intsT, neF_intsT, Wd, wy, cf]
  · have hz' : 0 < fit.length := List.length_pos_iff.mpr hz
    have hlt : (0 : Int) < (fit.length : Int) := by omega
    have tq := take_eq deck (fit.length : Int) (by omega) (ν ++ [a0, some (.lst (ss.map sD))])
    have q1 := tk_nonneg deck hlt
    have q2 := tk_lt deck hlt
    obtain ⟨n, hn⟩ : ∃ n : Nat, tk deck (fit.length : Int) = n := ⟨(tk deck (fit.length : Int)).toNat, by omega⟩
    rw [hn] at tq q2
    have hnl : n < fit.length := by omega
    have at1 : atI (fit.map sD) (n : Int) = some (sD fit[n]) := by
      unfold atI ixN
      rw [if_pos (by omega), if_pos (by rw [List.length_map]; omega)]
      simp [hnl]
    have at2 : atI (ss.map sD ++ [sD fit[n]]) (-1) = some (sD fit[n]) := by
      unfold atI ixN
      rw [if_neg (by omega), if_pos (by simp; omega)]
      have e0 : ((-1 : Int) + ((ss.map sD ++ [sD fit[n]]).length : Nat)).toNat = (ss.map sD).length := by simp; omega
      show (ss.map sD ++ [sD fit[n]])[((-1 : Int) + ((ss.map sD ++ [sD fit[n]]).length : Nat)).toNat]? = _
      rw [e0, get_off0]
      rfl
    have hmem : fit[n] ∈ waysL.filter fun s => (mv s.1 s.2 u).isSome := by rw [← hfit]; exact List.getElem_mem _
    have hsm := (List.mem_filter.mp hmem).2
    obtain ⟨v, hv⟩ := Option.isSome_iff_exists.mp hsm
    have hm := fun μ => made_eq fit[n].1 fit[n].2 u hu μ
    rw [hv] at hm
    have hsl : ss.length < lim := by omega
    refine ⟨ss ++ [fit[n]], v, deck.dropLast, some (.v (.lst (waysL.map sD))), some (.v (.lst (fit.map sD))), ?_, by rw [goAll_app, hg]; exact hv, by simp⟩
    have e9 : stp fit[n].1 fit[n].2 = sD fit[n] := rfl
    rw [e9] at hm
    generalize fit[n] = st at *
    rw [b_law_2]
    simp [Wd, oD] at tq hm
    simp [bind_ok, bind_exc, st_ok, st_exc, seq_nx, seq_rt, seq_bk, seq_ct, seq_exc, turn_nx, turn_ct, turn_bk, turn_rt, turn_exc, mk_true, mk_false, runS_rt, runS_nx, runS_exc, forL_nil, get_off, get_off0, set_off, set_off0, take_len,  sSeq, sIf, sSkip, sRet, sDrop, sAsg, sFor, sGhost, tFreeze, fTest, fBin, fUn, fCall, fCons, fNil, fVar, fC, fAnd, fOr, fNot, fIf, fLst, fTup, fChain, fAndV, fOrV, gNot, allV, g1, g2, gc1, gc2, Sl.get, okV, gNm, gUnp, gUnpL, gsNil, gsCons,  fSeq, fRng1, fRng2, fEnum, fComp, fYes, CT.put, setAll, wipeE, fMeth, isLst, lstAt, appendG, extendG, popG, popAtG, reverseG, countG, fNo, fPart, fSl, slF, revF, addF, subF, mulF, fdivF, modF, powF, ordF, negF, isNonF, isF, absF, max2F, min2F, int1F, lenF, listF, tupleF, sumF, maxF, minF, ixF,  gSubF, setL, sPar, sAug, runC, lift, pureOf, getAll, allVB, D.nol, D.nolL, startE, isiF, tyName, clsL, clsNm, isiB, eqF_int, neF_int, eqF_ints, neF_ints, eqF_intsT, neF_intsT, Wd] at wy cf
    simp [bind_ok, bind_exc, st_ok, st_exc, seq_nx, seq_rt, seq_bk, seq_ct, seq_exc, turn_nx, turn_ct, turn_bk, turn_rt, turn_exc, mk_true, mk_false, runS_rt, runS_nx, runS_exc, forL_nil, get_off, get_off0, set_off, set_off0, take_len,  sSeq, sIf, sSkip, sRet, sDrop, sAsg, sFor, sGhost, tFreeze, fTest, fBin, fUn, fCall, fCons, fNil, fVar, fC, fAnd, fOr, fNot, fIf, fLst, fTup, fChain, fAndV, fOrV, gNot, allV, g1, g2, gc1, gc2, Sl.get, okV, gNm, gUnp, gUnpL, gsNil, gsCons,  fSeq, fRng1, fRng2, fEnum, fComp, fYes, CT.put, setAll, wipeE, fMeth, isLst, lstAt, appendG, extendG, popG, popAtG, reverseG, countG, fNo, fPart, fSl, slF, revF, addF, subF, mulF, fdivF, modF, powF, ordF, negF, isNonF, isF, absF, max2F, min2F, int1F, lenF, listF, tupleF, sumF, maxF, minF, ixF,  gSubF, setL, sPar, sAug, runC, lift, pureOf, getAll, allVB, D.nol, D.nolL, startE, isiF, tyName, clsL, clsNm, isiB, eqF_int, neF_int, eqF_ints, neF_ints, eqF_intsT, neF_intsT, Wd, wy, cf, tq, at1, at2, hm, hz', hsl]
end k13

namespace k13
open PySem PySem.Spec PyProof.Rows L2 DL
theorem fold_loop (s0 o1 o2 o3 o4 o5 o6 o7 o8 o9 oA oB oD' oF oG oH oI oJ oK : Option Sl) (μ : Store) : ∀ (ss : List SP) (o : Option (List Int)) (oE : Option Sl), (∀ u, o = some u → u.length ≤ 1000) →
    ∃ oE', sForL (gNm 14) b_law_1 (ss.map sD) [s0, o1, o2, o3, o4, o5, o6, o7, o8, o9, oA, oB, some (.v (oD o)), oD', oE, oF, oG, oH, oI, oJ, oK] μ = .go .nx [s0, o1, o2, o3, o4, o5, o6, o7, o8, o9, oA, oB, some (.v (oD (o.bind (goAll ss)))), oD', oE', oF, oG, oH, oI, oJ, oK] μ
  | [], o, oE, _ => ⟨oE, by simp [goAll, forL_nil]⟩
  | s :: ss, o, oE, ho => by
    obtain ⟨oE', e⟩ := fold_loop s0 o1 o2 o3 o4 o5 o6 o7 o8 o9 oA oB oD' oF oG oH oI oJ oK μ ss (o.bind (mv s.1 s.2)) (some (.v (sD s))) (fun u h => by
      cases o with
      | none => cases h
      | some v => rw [mv_len (show mv s.1 s.2 v = some u from h)]; exact ho v rfl)
    refine ⟨oE', ?_⟩
    have eb : b_law_1 [s0, o1, o2, o3, o4, o5, o6, o7, o8, o9, oA, oB, some (.v (oD o)), oD', some (.v (sD s)), oF, oG, oH, oI, oJ, oK] μ = .go .nx [s0, o1, o2, o3, o4, o5, o6, o7, o8, o9, oA, oB, some (.v (oD (o.bind (mv s.1 s.2)))), oD', some (.v (sD s)), oF, oG, oH, oI, oJ, oK] μ := by
      cases o with
      | none => simp [b_law_1, bind_ok, bind_exc, st_ok, st_exc, seq_nx, seq_rt, seq_bk, seq_ct, seq_exc, turn_nx, turn_ct, turn_bk, turn_rt, turn_exc, mk_true, mk_false, runS_rt, runS_nx, runS_exc, forL_nil, get_off, get_off0, set_off, set_off0, take_len,  sSeq, sIf, sSkip, sRet, sDrop, sAsg, sFor, sGhost, tFreeze, fTest, fBin, fUn, fCall, fCons, fNil, fVar, fC, fAnd, fOr, fNot, fIf, fLst, fTup, fChain, fAndV, fOrV, gNot, allV, g1, g2, gc1, gc2, Sl.get, okV, gNm, gUnp, gUnpL, gsNil, gsCons,  fSeq, fRng1, fRng2, fEnum, fComp, fYes, CT.put, setAll, wipeE, fMeth, isLst, lstAt, appendG, extendG, popG, popAtG, reverseG, countG, fNo, fPart, fSl, slF, revF, addF, subF, mulF, fdivF, modF, powF, ordF, negF, isNonF, isF, absF, max2F, min2F, int1F, lenF, listF, tupleF, sumF, maxF, minF, ixF,  gSubF, setL, sPar, sAug, runC, lift, pureOf, getAll, allVB, D.nol, D.nolL, startE, isiF, tyName, clsL, clsNm, isiB, eqF_int, neF_int, eqF_ints, neF_ints, eqF_intsT, neF_intsT, oD]
      | some v =>
        have h := made_eq s.1 s.2 v (ho v rfl) μ
        have e9 : stp s.1 s.2 = sD s := rfl
        rw [e9] at h
        simp [Wd] at h
        simp [b_law_1, bind_ok, bind_exc, st_ok, st_exc, seq_nx, seq_rt, seq_bk, seq_ct, seq_exc, turn_nx, turn_ct, turn_bk, turn_rt, turn_exc, mk_true, mk_false, runS_rt, runS_nx, runS_exc, forL_nil, get_off, get_off0, set_off, set_off0, take_len,  sSeq, sIf, sSkip, sRet, sDrop, sAsg, sFor, sGhost, tFreeze, fTest, fBin, fUn, fCall, fCons, fNil, fVar, fC, fAnd, fOr, fNot, fIf, fLst, fTup, fChain, fAndV, fOrV, gNot, allV, g1, g2, gc1, gc2, Sl.get, okV, gNm, gUnp, gUnpL, gsNil, gsCons,  fSeq, fRng1, fRng2, fEnum, fComp, fYes, CT.put, setAll, wipeE, fMeth, isLst, lstAt, appendG, extendG, popG, popAtG, reverseG, countG, fNo, fPart, fSl, slF, revF, addF, subF, mulF, fdivF, modF, powF, ordF, negF, isNonF, isF, absF, max2F, min2F, int1F, lenF, listF, tupleF, sumF, maxF, minF, ixF,  gSubF, setL, sPar, sAug, runC, lift, pureOf, getAll, allVB, D.nol, D.nolL, startE, isiF, tyName, clsL, clsNm, isiB, eqF_int, neF_int, eqF_ints, neF_ints, eqF_intsT, neF_intsT, oD, Wd, h]
    rw [List.map_cons, sForL]
    simp only [gNm, List.set_cons_succ, List.set_cons_zero, eb, turn_nx]
    rw [e]
    cases o with
    | none => rfl
    | some v => rfl
/-- the loop that makes steps -/
theorem make_loop (w deck : List Int) (ν : Store) (a0 : Option D) (n : Nat) (hn : n ≤ 100) (hw : w.length ≤ 100) (s0 o2 o4 o5 o6 o7 o8 o9 oA oD' oE oF oG oH oI oJ oK : Option Sl) :
    ∃ (ss : List SP) (u deck' : List Int) (oE' oF' oG' : Option Sl), sForL (gNm 14) b_law_2 (rangeD 0 n) [s0, some (.c 0), o2, some (.v (Wd w)), o4, o5, o6, o7, o8, o9, oA, some (.c (ν.length + 1 + 1)), some (.v (Wd w)), oD', oE, oF, oG, oH, oI, oJ, oK] (some (Wd deck) :: (ν ++ [a0, some (.lst [])])) =
      .go .nx [s0, some (.c 0), o2, some (.v (Wd w)), o4, o5, o6, o7, o8, o9, oA, some (.c (ν.length + 1 + 1)), some (.v (Wd u)), oD', oE', oF', oG', oH, oI, oJ, oK] (some (Wd deck') :: (ν ++ [a0, some (.lst (ss.map sD))])) ∧ goAll ss w = some u ∧ ss.length ≤ 100 := by
  obtain ⟨ρ', μ', e, ss, u, deck', oE', oF', oG', rfl, rfl, hg, hl⟩ := forL_inv (tg := gNm 14) (body := b_law_2) (ds := rangeD 0 n) (ρ := [s0, some (.c 0), o2, some (.v (Wd w)), o4, o5, o6, o7, o8, o9, oA, some (.c (ν.length + 1 + 1)), some (.v (Wd w)), oD', oE, oF, oG, oH, oI, oJ, oK]) (μ := some (Wd deck) :: (ν ++ [a0, some (.lst [])]))
    (fun i ρ μ => ∃ (ss : List SP) (u deck' : List Int) (oE oF oG : Option Sl), ρ = [s0, some (.c 0), o2, some (.v (Wd w)), o4, o5, o6, o7, o8, o9, oA, some (.c (ν.length + 1 + 1)), some (.v (Wd u)), oD', oE, oF, oG, oH, oI, oJ, oK] ∧ μ = some (Wd deck') :: (ν ++ [a0, some (.lst (ss.map sD))]) ∧ goAll ss w = some u ∧ ss.length ≤ i)
    ⟨[], w, deck, oE, oF, oG, rfl, rfl, rfl, Nat.zero_le _⟩ (fun i d ρ μ hd ⟨ss, u, deck', oE, oF, oG, e1, e2, hg, hl⟩ => by
      obtain ⟨hi, rfl⟩ := rangeD_get hd
      subst e1 e2
      obtain ⟨ss', u', deck2, a, b, e, h1, h2⟩ := law_2 w u deck' ss ν a0 hw (by omega) hg s0 o2 o4 o5 o6 o7 o8 o9 oA oD' (some (.v (.int (0 + (i : Nat))))) oF oG oH oI oJ oK
      exact ⟨_, _, _, _, rfl, e, ss', u', deck2, some (.v (.int (0 + (i : Nat)))), a, b, rfl, rfl, h1, by omega⟩)
  rw [rangeD_len] at hl
  exact ⟨ss, u, deck', oE', oF', oG', e, hg, by omega⟩
theorem pl_steps (ss : List D) (h : ∀ d ∈ ss, ∃ f p, d = stp f p) (hl : ss.length ≤ 10000) : Pl 2 (.lst ss) := .lst (fun d m => by
  obtain ⟨f, p, rfl⟩ := h d m
  exact .tup (fun x mx => by
    simp only [List.mem_cons, List.not_mem_nil, or_false] at mx
    rcases mx with rfl | rfl
    · exact .str (lay_kn f)
    · exact .int p) (show 2 < lim by decide)) (by have : lim = 16777216 := rfl; omega)
theorem all_mem (w : List Int) : ∀ d ∈ allSteps w, ∃ f p, d = stp f p := by
  intro d m
  unfold allSteps stepsIn at m
  rcases List.mem_append.mp m with m | m
  · obtain ⟨i, _, rfl⟩ := List.mem_map.mp m
    exact ⟨_, _, rfl⟩
  · obtain ⟨i, _, rfl⟩ := List.mem_map.mp m
    exact ⟨_, _, rfl⟩
theorem all_len (w : List Int) (hw : w.length ≤ 100) : (allSteps w).length ≤ 1000 := by
  unfold allSteps
  rw [List.length_append]
  have := steps_len true w 0 (w.length - 2)
  have := steps_len false w 0 (w.length - 2)
  omega
theorem all_std (w : List Int) : allSteps (std w) = allSteps w := by
  unfold allSteps
  rw [steps_std, steps_std, std_len]
def tl : FS := sSeq (sAsg (fIf (fTest (fUn (fVar 12) (isNonF false))) (fCall (gc1 (listF false)) (fCons (fVar 3) (fNil))) (fVar 12)) (gNm 19)) (sSeq (sIf (fTest (fBin (fCall (m_take) (fCons (fVar 1) (fCons (fC (.int 3)) (fNil)))) (fC (.int 0)) (g2 eqF))) (sAsg (fUn (fVar 19) (g1 (revF false))) (gNm 19)) (sSkip)) (sSeq (sAsg (fAndV (fVar 13) (fBin (fVar 19) (fVar 12) (g2 eqF))) (gNm 9)) (sIf (fTest (fBin (fCall (m_plain 4) (fCons (fLst false (fCons (fCall (m_judge_steps) (fCons (fCall (gc1 (listF false)) (fCons (fVar 3) (fNil))) (fCons (fCall (gc1 (listF false)) (fCons (fVar 11) (fNil))) (fCons (fCall (gc1 (listF false)) (fCons (fVar 19) (fNil))) (fNil))))) (fNil))) (fNil))) (fCall (m_plain 4) (fCons (fLst false (fCons (fVar 9) (fNil))) (fNil))) (g2 neF))) (sRet (fC (.bl false))) (sSkip))))
theorem rev_int (u : List Int) : (u.map D.int).reverse = u.reverse.map D.int := by rw [List.map_reverse]
theorem pl_bl (b : Bool) : Pl 1 (.lst [.bl b]) := .lst (fun d m => by
  simp only [List.mem_cons, List.not_mem_nil, or_false] at m
  rw [m]
  exact .bl b) (show 1 < lim by decide)
/-- goal, judge_steps -/
theorem tail_ok (w deck : List Int) (ss : List SP) (ν : Store) (hw : w.length ≤ 100) (s0 o2 o4 o5 o6 o7 o8 o9 oA oE oF oG oH oI oJ oK : Option Sl) : ∃ (p9 pJ : Option Sl),
    tl [s0, some (.c 0), o2, some (.v (Wd w)), o4, o5, o6, o7, o8, o9, oA, some (.v (.lst (ss.map sD))), some (.v (oD (goAll ss w))), some (.v (.bl (goAll ss w).isSome)), oE, oF, oG, oH, oI, oJ, oK] (some (Wd deck) :: ν) = .go .nx [s0, some (.c 0), o2, some (.v (Wd w)), o4, o5, o6, o7, o8, p9, oA, some (.v (.lst (ss.map sD))), some (.v (oD (goAll ss w))), some (.v (.bl (goAll ss w).isSome)), oE, oF, oG, oH, oI, pJ, oK] (some (Wd deck.dropLast) :: ν) := by
  have t3 := take_eq deck 3 (by decide) ν
  have ju := fun g μ => judge_eq w g ss (by omega) μ
  have pb := fun b μ => plain_eq (pl_bl b) 4 (by omega) μ
  have nb := fun b μ => plain_ne (pl_bl b) (by omega) (μ := μ)
  have er := fun (u : List Int) (μ : Store) => eqF_ints (μ := μ) u.reverse u
  cases q : goAll ss w with
  | none =>
    rw [q] at ju
    by_cases h3 : tk deck 3 = 0
    · refine ⟨some (.v (.bl false)), some (.v (Wd w.reverse)), ?_⟩
      have ju := ju w.reverse
      simp [Wd] at t3 ju pb nb
      simp [tl, bind_ok, bind_exc, st_ok, st_exc, seq_nx, seq_rt, seq_bk, seq_ct, seq_exc, turn_nx, turn_ct, turn_bk, turn_rt, turn_exc, mk_true, mk_false, runS_rt, runS_nx, runS_exc, forL_nil, get_off, get_off0, set_off, set_off0, take_len,  sSeq, sIf, sSkip, sRet, sDrop, sAsg, sFor, sGhost, tFreeze, fTest, fBin, fUn, fCall, fCons, fNil, fVar, fC, fAnd, fOr, fNot, fIf, fLst, fTup, fChain, fAndV, fOrV, gNot, allV, g1, g2, gc1, gc2, Sl.get, okV, gNm, gUnp, gUnpL, gsNil, gsCons,  fSeq, fRng1, fRng2, fEnum, fComp, fYes, CT.put, setAll, wipeE, fMeth, isLst, lstAt, appendG, extendG, popG, popAtG, reverseG, countG, fNo, fPart, fSl, slF, revF, addF, subF, mulF, fdivF, modF, powF, ordF, negF, isNonF, isF, absF, max2F, min2F, int1F, lenF, listF, tupleF, sumF, maxF, minF, ixF,  gSubF, setL, sPar, sAug, runC, lift, pureOf, getAll, allVB, D.nol, D.nolL, startE, isiF, tyName, clsL, clsNm, isiB, eqF_int, neF_int, eqF_ints, neF_ints, eqF_intsT, neF_intsT, Wd, oD, t3, h3, ju, pb, nb]
    · refine ⟨some (.v (.bl false)), some (.v (Wd w)), ?_⟩
      simp [Wd] at t3 ju pb nb
      simp [tl, bind_ok, bind_exc, st_ok, st_exc, seq_nx, seq_rt, seq_bk, seq_ct, seq_exc, turn_nx, turn_ct, turn_bk, turn_rt, turn_exc, mk_true, mk_false, runS_rt, runS_nx, runS_exc, forL_nil, get_off, get_off0, set_off, set_off0, take_len,  sSeq, sIf, sSkip, sRet, sDrop, sAsg, sFor, sGhost, tFreeze, fTest, fBin, fUn, fCall, fCons, fNil, fVar, fC, fAnd, fOr, fNot, fIf, fLst, fTup, fChain, fAndV, fOrV, gNot, allV, g1, g2, gc1, gc2, Sl.get, okV, gNm, gUnp, gUnpL, gsNil, gsCons,  fSeq, fRng1, fRng2, fEnum, fComp, fYes, CT.put, setAll, wipeE, fMeth, isLst, lstAt, appendG, extendG, popG, popAtG, reverseG, countG, fNo, fPart, fSl, slF, revF, addF, subF, mulF, fdivF, modF, powF, ordF, negF, isNonF, isF, absF, max2F, min2F, int1F, lenF, listF, tupleF, sumF, maxF, minF, ixF,  gSubF, setL, sPar, sAug, runC, lift, pureOf, getAll, allVB, D.nol, D.nolL, startE, isiF, tyName, clsL, clsNm, isiB, eqF_int, neF_int, eqF_ints, neF_ints, eqF_intsT, neF_intsT, Wd, oD, t3, h3, ju, pb, nb]
  | some u =>
    rw [q] at ju
    by_cases h3 : tk deck 3 = 0
    · refine ⟨some (.v (.bl (decide (u = u.reverse)))), some (.v (Wd u.reverse)), ?_⟩
      have ju := ju u.reverse
      have er := er u
      have e0 : decide (u = u.reverse) = decide (u.reverse = u) := decide_eq_decide.mpr eq_comm
      simp only [Option.some.injEq, e0] at ju
      rw [e0]
      generalize decide (u.reverse = u) = b at *
      simp [Wd] at t3 ju pb nb er
      cases b <;> simp [tl, bind_ok, bind_exc, st_ok, st_exc, seq_nx, seq_rt, seq_bk, seq_ct, seq_exc, turn_nx, turn_ct, turn_bk, turn_rt, turn_exc, mk_true, mk_false, runS_rt, runS_nx, runS_exc, forL_nil, get_off, get_off0, set_off, set_off0, take_len,  sSeq, sIf, sSkip, sRet, sDrop, sAsg, sFor, sGhost, tFreeze, fTest, fBin, fUn, fCall, fCons, fNil, fVar, fC, fAnd, fOr, fNot, fIf, fLst, fTup, fChain, fAndV, fOrV, gNot, allV, g1, g2, gc1, gc2, Sl.get, okV, gNm, gUnp, gUnpL, gsNil, gsCons,  fSeq, fRng1, fRng2, fEnum, fComp, fYes, CT.put, setAll, wipeE, fMeth, isLst, lstAt, appendG, extendG, popG, popAtG, reverseG, countG, fNo, fPart, fSl, slF, revF, addF, subF, mulF, fdivF, modF, powF, ordF, negF, isNonF, isF, absF, max2F, min2F, int1F, lenF, listF, tupleF, sumF, maxF, minF, ixF,  gSubF, setL, sPar, sAug, runC, lift, pureOf, getAll, allVB, D.nol, D.nolL, startE, isiF, tyName, clsL, clsNm, isiB, eqF_int, neF_int, eqF_ints, neF_ints, eqF_intsT, neF_intsT, Wd, oD, t3, h3, ju, pb, nb, er]
    · refine ⟨some (.v (.bl true)), some (.v (Wd u)), ?_⟩
      simp [Wd] at t3 ju pb nb
      simp [tl, bind_ok, bind_exc, st_ok, st_exc, seq_nx, seq_rt, seq_bk, seq_ct, seq_exc, turn_nx, turn_ct, turn_bk, turn_rt, turn_exc, mk_true, mk_false, runS_rt, runS_nx, runS_exc, forL_nil, get_off, get_off0, set_off, set_off0, take_len,  sSeq, sIf, sSkip, sRet, sDrop, sAsg, sFor, sGhost, tFreeze, fTest, fBin, fUn, fCall, fCons, fNil, fVar, fC, fAnd, fOr, fNot, fIf, fLst, fTup, fChain, fAndV, fOrV, gNot, allV, g1, g2, gc1, gc2, Sl.get, okV, gNm, gUnp, gUnpL, gsNil, gsCons,  fSeq, fRng1, fRng2, fEnum, fComp, fYes, CT.put, setAll, wipeE, fMeth, isLst, lstAt, appendG, extendG, popG, popAtG, reverseG, countG, fNo, fPart, fSl, slF, revF, addF, subF, mulF, fdivF, modF, powF, ordF, negF, isNonF, isF, absF, max2F, min2F, int1F, lenF, listF, tupleF, sumF, maxF, minF, ixF,  gSubF, setL, sPar, sAug, runC, lift, pureOf, getAll, allVB, D.nol, D.nolL, startE, isiF, tyName, clsL, clsNm, isiB, eqF_int, neF_int, eqF_ints, neF_ints, eqF_intsT, neF_intsT, Wd, oD, t3, h3, ju, pb, nb]
/-- one turn -/
theorem turn_ok (deck : List Int) (ν : Store) (s0 o2 o3 o4 o5 o6 o7 o8 o9 oA oB oC oD' oE oF oG oH oI oJ oK : Option Sl) :
    ∃ (deck' : List Int) (ν' : Store) (p3 p4 p5 p6 p7 p8 p9 pA pB pC pD pE pF pG pH pI pJ pK : Option Sl), b_law_5 [s0, some (.c 0), o2, o3, o4, o5, o6, o7, o8, o9, oA, oB, oC, oD', oE, oF, oG, oH, oI, oJ, oK] (some (Wd deck) :: ν) =
      .go .nx [s0, some (.c 0), o2, p3, p4, p5, p6, p7, p8, p9, pA, pB, pC, pD, pE, pF, pG, pH, pI, pJ, pK] (some (Wd deck') :: ν') := by
  have hlim : lim = 16777216 := rfl
  obtain ⟨w, dk1, we, hw⟩ := word_eq deck ν
  obtain ⟨a6, a7, a8, a9, l1⟩ := law_4 true w dk1 [] ν (by omega) (by simp) s0 o2 o6 o7 o8 o9 oA oB oC oD' oE oF oG oH oI oJ oK
  obtain ⟨b6, b7, b8, b9, l2⟩ := law_4 false w dk1 (stepsIn true w 0 (w.length - 2)) ν (by omega) (by have := steps_len true w 0 (w.length - 2); omega) s0 o2 a6 a7 a8 a9 oA oB oC oD' oE oF oG oH oI oJ oK
  have k1 : ("first" : Str) = kn true := rfl
  have k2 : ("last" : Str) = kn false := rfl
  have st := fun μ => steps_eq w (by omega) μ
  have pa := fun μ => plain_eq (pl_steps (allSteps w) (all_mem w) (by have := all_len w (by omega); omega)) 4 (by omega) μ
  have na := fun μ => plain_ne (pl_steps (allSteps w) (all_mem w) (by have := all_len w (by omega); omega)) (by omega) (μ := μ)
  have sw := fun μ => standard_eq w (by omega) μ
  have ls := fun μ => lawstd_eq w (by omega) μ
  have ps := fun μ => plain_eq (pl_ints (std w) (by rw [std_len]; omega) 0) 4 (by omega) μ
  have ns := fun μ => plain_ne (pl_ints (std w) (by rw [std_len]; omega) 0) (by omega) (μ := μ)
  have st2 := fun μ => steps_eq (std w) (by rw [std_len]; omega) μ
  have nn := fun μ => neF_self (μ := μ) (shp_mono (pl_steps (allSteps w) (all_mem w) (by have := all_len w (by omega); omega)).shp (by omega : 2 ≤ 64))
  rw [all_std] at st2
  -- the number of steps
  have t9 := take_eq dk1 9 (by decide) (ν ++ [none, some (.lst [])])
  have q1 := tk_nonneg dk1 (k := 9) (by decide)
  have q2 := tk_lt dk1 (k := 9) (by decide)
  obtain ⟨n, hn⟩ : ∃ n : Nat, tk dk1 9 = n := ⟨(tk dk1 9).toNat, by omega⟩
  rw [hn] at t9 q2
  obtain ⟨ss, u, dk2, cE, cF, cG, mk, hg, hsl⟩ := make_loop w dk1.dropLast ν none n (by omega) (by omega) s0 o2 (some (.v (.lst (allSteps w)))) (some (.v (.str (kn false)))) b6 b7 b8 b9 (some (.v (Wd (std w)))) (some (.v (.bl true))) oE oF oG oH oI oJ oK
  have hsz : n < 2305843009213693952 := by omega
  have al : allSteps w = stepsIn true w 0 (w.length - 2) ++ stepsIn false w 0 (w.length - 2) := rfl
  rw [← al] at l2
  have t3 := take_eq dk2 3 (by decide) (ν ++ [none, none])
  have l4 := take_eq dk2.dropLast 12 (by decide) (ν ++ [none, none])
  have l5 := take_eq dk2.dropLast.dropLast ((ss.length : Int) + 1) (by omega) (ν ++ [none, none])
  have r1 := tk_nonneg dk2.dropLast.dropLast (k := (ss.length : Int) + 1) (by omega)
  have r2 := tk_lt dk2.dropLast.dropLast (k := (ss.length : Int) + 1) (by omega)
  obtain ⟨m, hm⟩ : ∃ m : Nat, tk dk2.dropLast.dropLast ((ss.length : Int) + 1) = m := ⟨(tk dk2.dropLast.dropLast ((ss.length : Int) + 1)).toNat, by omega⟩
  rw [hm] at l5 r2
  obtain ⟨oth, hoth⟩ : ∃ o : SP, o = (false, tk dk2.dropLast 12) := ⟨_, rfl⟩
  obtain ⟨eE, fo⟩ := fold_loop s0 (some (.c 0)) o2 (some (.v (Wd w))) (some (.v (.lst (allSteps w)))) (some (.v (.str (kn false)))) b6 b7 b8 b9 (some (.v (Wd (std w)))) (some (.v (.lst ((ss.take m ++ [oth] ++ ss.drop m).map sD)))) (some (.v (.bl true))) cF cG (some (.v (sD oth))) (some (.v (.int m))) oJ oK (some (Wd dk2.dropLast.dropLast.dropLast) :: (ν ++ [none, none])) (ss.take m ++ [oth] ++ ss.drop m) (some w) cE (fun u h => by cases h; omega)
  have c1 : cutD (ss.map sD) none (some (m : Int)) = (ss.take m).map sD := by rw [cut_hi rfl, List.map_take]
  have c2 : cutD (ss.map sD) (some (m : Int)) none = (ss.drop m).map sD := by rw [cut_lo rfl, List.map_drop]
  have z1 : min m ss.length + 1 ≤ lim := by omega
  have z2 : min m ss.length + 1 + (ss.length - m) ≤ lim := by omega
  have so : sD oth = .tup [.str (kn false), .int (tk dk2.dropLast 12)] := by rw [hoth]; rfl
  by_cases h3 : tk dk2 3 = 0
  · obtain ⟨p9, pJ, ta⟩ := tail_ok w dk2.dropLast.dropLast.dropLast (ss.take m ++ [oth] ++ ss.drop m) (ν ++ [none, none]) (by omega) s0 o2 (some (.v (.lst (allSteps w)))) (some (.v (.str (kn false)))) b6 b7 b8 b9 (some (.v (Wd (std w)))) eE cF cG (some (.v (sD oth))) (some (.v (.int m))) oJ oK
    refine ⟨dk2.dropLast.dropLast.dropLast.dropLast, ν ++ [none, none], _, _, _, _, _, _, _, _, _, _, _, _, _, _, _, _, _, _, Eq.trans ?_ ta⟩
    have e0 : oD (some w) = Wd w := rfl
    rw [e0] at fo
    simp [Wd, so] at we l1 l2 st pa na sw ls ps ns st2 nn t9 mk t3 l4 l5 c1 c2 fo
    simp only [b_law_5, k1, k2]
    rw [so]
    simp [bind_ok, bind_exc, st_ok, st_exc, seq_nx, seq_rt, seq_bk, seq_ct, seq_exc, turn_nx, turn_ct, turn_bk, turn_rt, turn_exc, mk_true, mk_false, runS_rt, runS_nx, runS_exc, forL_nil, get_off, get_off0, set_off, set_off0, take_len,  sSeq, sIf, sSkip, sRet, sDrop, sAsg, sFor, sGhost, tFreeze, fTest, fBin, fUn, fCall, fCons, fNil, fVar, fC, fAnd, fOr, fNot, fIf, fLst, fTup, fChain, fAndV, fOrV, gNot, allV, g1, g2, gc1, gc2, Sl.get, okV, gNm, gUnp, gUnpL, gsNil, gsCons,  fSeq, fRng1, fRng2, fEnum, fComp, fYes, CT.put, setAll, wipeE, fMeth, isLst, lstAt, appendG, extendG, popG, popAtG, reverseG, countG, fNo, fPart, fSl, slF, revF, addF, subF, mulF, fdivF, modF, powF, ordF, negF, isNonF, isF, absF, max2F, min2F, int1F, lenF, listF, tupleF, sumF, maxF, minF, ixF,  gSubF, setL, sPar, sAug, runC, lift, pureOf, getAll, allVB, D.nol, D.nolL, startE, isiF, tyName, clsL, clsNm, isiB, eqF_int, neF_int, eqF_ints, neF_ints, eqF_intsT, neF_intsT, Wd, we, sForL, l1, l2, st, pa, na, sw, ls, ps, ns, st2, nn, t9, hsz, mk, t3, h3, l4, l5, c1, c2, z1, z2, fo, oD_non, so, tl, -isNonF]
  · obtain ⟨p9, pJ, ta⟩ := tail_ok w dk2.dropLast ss (ν ++ [none, none]) (by omega) s0 o2 (some (.v (.lst (allSteps w)))) (some (.v (.str (kn false)))) b6 b7 b8 b9 (some (.v (Wd (std w)))) cE cF cG oH oI oJ oK
    refine ⟨dk2.dropLast.dropLast, ν ++ [none, none], _, _, _, _, _, _, _, _, _, _, _, _, _, _, _, _, _, _, Eq.trans ?_ ta⟩
    rw [hg]
    simp [Wd] at we l1 l2 st pa na sw ls ps ns st2 nn t9 mk t3
    simp only [b_law_5, k1, k2]
    simp [bind_ok, bind_exc, st_ok, st_exc, seq_nx, seq_rt, seq_bk, seq_ct, seq_exc, turn_nx, turn_ct, turn_bk, turn_rt, turn_exc, mk_true, mk_false, runS_rt, runS_nx, runS_exc, forL_nil, get_off, get_off0, set_off, set_off0, take_len,  sSeq, sIf, sSkip, sRet, sDrop, sAsg, sFor, sGhost, tFreeze, fTest, fBin, fUn, fCall, fCons, fNil, fVar, fC, fAnd, fOr, fNot, fIf, fLst, fTup, fChain, fAndV, fOrV, gNot, allV, g1, g2, gc1, gc2, Sl.get, okV, gNm, gUnp, gUnpL, gsNil, gsCons,  fSeq, fRng1, fRng2, fEnum, fComp, fYes, CT.put, setAll, wipeE, fMeth, isLst, lstAt, appendG, extendG, popG, popAtG, reverseG, countG, fNo, fPart, fSl, slF, revF, addF, subF, mulF, fdivF, modF, powF, ordF, negF, isNonF, isF, absF, max2F, min2F, int1F, lenF, listF, tupleF, sumF, maxF, minF, ixF,  gSubF, setL, sPar, sAug, runC, lift, pureOf, getAll, allVB, D.nol, D.nolL, startE, isiF, tyName, clsL, clsNm, isiB, eqF_int, neF_int, eqF_ints, neF_ints, eqF_intsT, neF_intsT, Wd, we, sForL, l1, l2, st, pa, na, sw, ls, ps, ns, st2, nn, t9, hsz, mk, t3, h3, oD, tl]
end k13

namespace k13
open PySem PySem.Spec PyProof.Rows L2 DL
theorem plain (ns : List Int) (hl : ns.length ≤ 63) : ∃ μ, m_law [.v (.fz (ns.map .int))] [] = .ok (.v (.bl true)) μ := by
  obtain ⟨deck, e, _, _⟩ := deck_eq ns (by omega) 50 14 (by omega) (by omega) (by decide)
  obtain ⟨ρ', μ', f, o2, o3, o4, o5, o6, o7, o8, o9, oA, oB, oC, oD', oE, oF, oG, oH, oI, oJ, oK, dk, ν, rfl, rfl⟩ := forL_inv (tg := gNm 2) (body := b_law_5) (ds := rangeD 0 3) (ρ := [some (.v (.fz (ns.map .int))), some (.c 0), none, none, none, none, none, none, none, none, none, none, none, none, none, none, none, none, none, none, none]) (μ := [some (Wd deck)])
    (fun i ρ μ => ∃ (o2 o3 o4 o5 o6 o7 o8 o9 oA oB oC oD' oE oF oG oH oI oJ oK : Option Sl) (dk : List Int) (ν : Store), ρ = [some (.v (.fz (ns.map .int))), some (.c 0), o2, o3, o4, o5, o6, o7, o8, o9, oA, oB, oC, oD', oE, oF, oG, oH, oI, oJ, oK] ∧ μ = some (Wd dk) :: ν)
    ⟨none, none, none, none, none, none, none, none, none, none, none, none, none, none, none, none, none, none, none, deck, [], rfl, rfl⟩ (fun i d ρ μ hd ⟨o2, o3, o4, o5, o6, o7, o8, o9, oA, oB, oC, oD', oE, oF, oG, oH, oI, oJ, oK, dk, ν, e1, e2⟩ => by
      subst e1 e2
      obtain ⟨dk', ν', p3, p4, p5, p6, p7, p8, p9, pA, pB, pC, pD, pE, pF, pG, pH, pI, pJ, pK, h⟩ := turn_ok dk ν (some (.v (.fz (ns.map .int)))) (some (.v d)) o3 o4 o5 o6 o7 o8 o9 oA oB oC oD' oE oF oG oH oI oJ oK
      exact ⟨_, _, _, _, rfl, h, some (.v d), p3, p4, p5, p6, p7, p8, p9, pA, pB, pC, pD, pE, pF, pG, pH, pI, pJ, pK, dk', ν', rfl, rfl⟩)
  refine ⟨[], ?_⟩
  simp only [m_law, b_law]
  simp [Wd] at e f
  simp [bind_ok, bind_exc, st_ok, st_exc, seq_nx, seq_rt, seq_bk, seq_ct, seq_exc, turn_nx, turn_ct, turn_bk, turn_rt, turn_exc, mk_true, mk_false, runS_rt, runS_nx, runS_exc, forL_nil, get_off, get_off0, set_off, set_off0, take_len,  sSeq, sIf, sSkip, sRet, sDrop, sAsg, sFor, sGhost, tFreeze, fTest, fBin, fUn, fCall, fCons, fNil, fVar, fC, fAnd, fOr, fNot, fIf, fLst, fTup, fChain, fAndV, fOrV, gNot, allV, g1, g2, gc1, gc2, Sl.get, okV, gNm, gUnp, gUnpL, gsNil, gsCons,  fSeq, fRng1, fRng2, fEnum, fComp, fYes, CT.put, setAll, wipeE, fMeth, isLst, lstAt, appendG, extendG, popG, popAtG, reverseG, countG, fNo, fPart, fSl, slF, revF, addF, subF, mulF, fdivF, modF, powF, ordF, negF, isNonF, isF, absF, max2F, min2F, int1F, lenF, listF, tupleF, sumF, maxF, minF, ixF,  gSubF, setL, sPar, sAug, runC, lift, pureOf, getAll, allVB, D.nol, D.nolL, startE, isiF, tyName, clsL, clsNm, isiB, eqF_int, neF_int, eqF_ints, neF_ints, eqF_intsT, neF_intsT, e, f]
end k13

open PySem PySem.W PySem.Calls PyProof.Rows
theorem PySem.Challenge.cw_tablework_k13_knuth_steps_holds : PySem.Challenge.rw_tablework_k13_knuth_steps.Holds := by
  w_on; o_law
  refine HandSHeadRun.head_any (r := OpenLaw.row PySem.Challenge.rw_tablework_k13_knuth_steps) (q := view (OpenLaw.row PySem.Challenge.rw_tablework_k13_knuth_steps).prog [17]) (H := k13.hkk) (ob := k13.ob) (M := 3000) (loose := ["TableError", "InvalidWord", "standard_word", "stepped", "knuth_step", "knuth_steps", "judge_steps", "_law_deck", "_law_take", "_law_plain", "_law_word", "_law_made", "_law_told", "_law_standard"]) (d := HandSHeadRun.topDef (OpenLaw.row PySem.Challenge.rw_tablework_k13_knuth_steps).prog 17) (kwd := []) k13.ob_eq
    (by kernel_rfl) (fun s => by kernel_rfl) k13.run (by kernel_rfl) (by kernel_rfl) (by kernel_rfl) (by rfl) (by first | assumption | decide +kernel) (by decide +kernel) ⟨rfl, rfl, rfl, rfl, rfl, by decide +kernel⟩ ?hw ?hc
  case hw => w_witness2
  case hc =>
    refine L2.walk_ofE (l := PySem.Challenge.rw_tablework_k13_knuth_steps) (n := 63) (k := 5) (x := "script") (CX := L2.CX0) rfl (by decide) (by kernel_rfl) ⟨rfl, by decide, by decide⟩ ?F (fun _ _ _ _ z => z)
    intro w mg fa h Y G hmg0
    obtain ⟨K, KX, c⟩ := Y
    have hmg : mg ("law" : PySem.Str) = some (.ref fa) := by
      have e : (HandSHeadRun.topDef (OpenLaw.row PySem.Challenge.rw_tablework_k13_knuth_steps).prog 17).name = ("law" : PySem.Str) := by kernel_rfl
      rw [← e]
      exact hmg0
    obtain ⟨fd__law_deck, fd__law_take, fd__law_word, fd_standard_word, fd__law_plain, fd__law_made, fd_stepped, fd_knuth_steps, fd__law_standard, fd_judge_steps, fd_knuth_step, fd__law_told, fd_law, fi_InvalidWord, T⟩ := k13.Fx_of KX G c
    have e := hmg.symm.trans T.d_law.m
    cases e
    have b : ∀ (s : Shared) (v : Value), BindsTo s fd_law ⟨[v], []⟩ [("script", v)] := fun s v => L2.FunD.bindsA (ps := ["script"]) T.d_law.F (fun _ _ _ _ _ _ us hl => (match us, hl with | [_], _ => rfl)) s [v] rfl
    exact ⟨K, fd_law, (fun vs H Q _ => DL.spG K 1 k13.m_law vs H Q L2.E0), KX, b, fun H a ns hl hO hS => DL.law_sp (k13.plain ns hl).choose_spec hO hS, fun base _ _ => DL.fn_cx0 (k13.ok_law T)⟩

