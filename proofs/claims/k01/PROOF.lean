import PyProof.Rows.All
import Wide.All
import OpenK.AllK
import Wide.FinOn
import KE.KStateDown
import HandS.ForMost
import HandS.ForExc
import HandS.Flow
import HandS.Wide
import HandS.IsInst
import HandS.EndBits
import HandS.Defaults
import HandS.Head0
import HandS.Head1
import HandS.Head2
import HandS.HeadEnd
import HandS.HeadHook1
import HandS.HeadHook2
import KE.GoesEnumKw
import HandS.Zip
import HandS.SortKw
import HandS.TupAny
import HandS.TupMul
import PyProof.ListStr
import PyProof.ReprRoads
import KE.KEqNest
import HandS.RaiseMore
import HandS.Style
import HandS.SetFor
import HandS.Strs
import HandS.SortInts
import KE.KExcLine
import HandS.ExcInit
import KE.KExcIs
import HandS.ExcValue
import HandS.Exc
import HandS.More
import HandS.ExcOwn
import PyProof.CollectIter
import PyProof.WalksMore
import PyProof.RulesMatch
import HandS.HeadHook3
import PySem.Challenge.RW_whoheld_k01_errors
set_option Elab.async false
set_option linter.all false
set_option autoImplicit false
set_option maxRecDepth 100000
set_option maxHeartbeats 4000000
namespace Mp
open PySem PySem.Spec L2

/-! ### data: immutable trees; mutable things by their number -/
inductive D where
  | non | bl (b : Bool) | int (i : Int) | str (x : Str) | tup (xs : List D) | lst (xs : List D) | scr (xs : List D) | dic (ks : List Key) (vs : List D)
  | exc (c : Str) (ks : List Str) (vs : List D)
  | ref (n : Nat) | ty (n : String) | glo (x : Str)
/-- a mutable thing -/
inductive AO where
  | lst (xs : List D)
  | dic (ks : List Key) (vs : List D)
  | ins (c : Str) (fs : List (Str × D))
abbrev AH := List AO
/-- how a computation ends -/
inductive R (α : Type) where
  | ok (a : α) (h : AH)
  | exc (c : Str) (fs : List (Str × D)) (h : AH)
  | bad
def R.bind {α β : Type} (r : R α) (f : α → AH → R β) : R β := match r with
  | .ok a h => f a h
  | .exc c fs h => .exc c fs h
  | .bad => .bad
theorem R.bind_ok {α β : Type} (a : α) (h : AH) (f : α → AH → R β) : (R.ok a h).bind f = f a h := rfl
theorem R.bind_bad {α β : Type} (f : α → AH → R β) : (R.bad : R α).bind f = .bad := rfl
theorem R.bind_exc {α β : Type} (c : Str) (fs : List (Str × D)) (h : AH) (f : α → AH → R β) : (R.exc c fs h : R α).bind f = .exc c fs h := rfl
theorem R.bind_bind {α β γ : Type} (r : R α) (f : α → AH → R β) (g : β → AH → R γ) : (r.bind f).bind g = r.bind fun a h => (f a h).bind g := by cases r <;> rfl

/-! ### the relation to the layer's heap -/
/-- where the mutable things stand (by their numbers), and what is private to a rule -/
structure Th where
  l : List Addr
  x : List Addr
def Th.no (θ : Th) (a : Addr) : Prop := a ∉ θ.l ∧ a ∉ θ.x
def Th.add (θ : Th) (p : Addr) : Th := ⟨θ.l ++ [p], θ.x⟩
def Th.hide (θ : Th) (p : Addr) : Th := ⟨θ.l, p :: θ.x⟩
/-- a tuple that stands for ever; a list, a dict that nobody changes -/
def FT (K : PySem.W.Frag) (θ : Th) (H : Hp) (a : Addr) (vs : List V) : Prop :=
  (Rd H a (.tup vs) ∧ θ.no a) ∨ ∃ (o : Obj) (its : Array Value) (n : Nat), K.lookup a = some o ∧ o.cls = .type "tuple" ∧ o.data = .seq its n ∧ its.size ≤ sizeLine ∧ Vals vs its.toList
def FL (θ : Th) (H : Hp) (a : Addr) (vs : List V) : Prop := H a = some (.lst vs) ∧ θ.no a
/-- the script -/
def FS (K : PySem.W.Frag) (θ : Th) (H : Hp) (a : Addr) (vs : List V) : Prop :=
  ((∃ o, H a = some (.frz o (.lst vs))) ∧ θ.no a) ∨ ∃ (o : Obj) (its : Array Value) (n : Nat), K.lookup a = some o ∧ o.cls = .type "list" ∧ o.dict = none ∧ o.data = .seq its n ∧ its.size ≤ sizeLine ∧ Vals vs its.toList
def FD (θ : Th) (H : Hp) (a : Addr) (kvs : List (Key × V)) : Prop := H a = some (.dK kvs) ∧ θ.no a
theorem FT.sq {K : PySem.W.Frag} {θ : Th} {H : Hp} {a : Addr} {vs : List V} (h : FT K θ H a vs) : SqT K H a vs := h.elim (fun z => .inl z.1) .inr
theorem FS.sq {K : PySem.W.Frag} {θ : Th} {H : Hp} {a : Addr} {vs : List V} (h : FS K θ H a vs) : SqL K H a vs := h.elim (fun z => .inl (.inr z.1)) .inr

/-- an exception of an own class, with its fields -/
def XO (C : Addr) (d : Option Addr) (a : Addr) : HO := .ext fun h => ∃ (oe : Obj) (vs : Array Value), h.get? a = some oe ∧ Zc (.ref C) d oe ∧ oe.data = .fields vs
def FX (K : PySem.W.Frag) (θ : Th) (H : Hp) (a : Addr) (c : Str) (ks : List Str) (vs : List V) : Prop :=
  (H a = some (XO (He.ga K c) none a) ∧ θ.no a ∧ ks = [] ∧ vs = []) ∨ ∃ dx, H a = some (XO (He.ga K c) (some dx) a) ∧ θ.no a ∧ H dx = some (.xd (ks.zip vs)) ∧ θ.no dx ∧ ks.length = vs.length
mutual
inductive Rep (K : PySem.W.Frag) (θ : Th) (H : Hp) : D → V → Prop
  | non : Rep K θ H .non .non
  | bl (b : Bool) : Rep K θ H (.bl b) (.bl b)
  | int (i : Int) : Rep K θ H (.int i) (.int i)
  | str (x : Str) : Rep K θ H (.str x) (.str x)
  | ty (n : String) : Rep K θ H (.ty n) (.ty n)
  | glo (x : Str) : Rep K θ H (.glo x) (.ref (He.ga K x))
  | ref {n : Nat} {a : Addr} : θ.l[n]? = some a → Rep K θ H (.ref n) (.ref a)
  | tup {xs : List D} {vs : List V} {a : Addr} : FT K θ H a vs → Reps K θ H xs vs → Rep K θ H (.tup xs) (.ref a)
  | lst {xs : List D} {vs : List V} {a : Addr} : FL θ H a vs → Reps K θ H xs vs → Rep K θ H (.lst xs) (.ref a)
  | scr {xs : List D} {vs : List V} {a : Addr} : FS K θ H a vs → Reps K θ H xs vs → Rep K θ H (.scr xs) (.ref a)
  | dic {ks : List Key} {xs : List D} {vs : List V} {a : Addr} : FD θ H a (ks.zip vs) → ks.length = vs.length → Reps K θ H xs vs → Rep K θ H (.dic ks xs) (.ref a)
  | exc {c : Str} {ks : List Str} {xs : List D} {vs : List V} {a : Addr} : FX K θ H a c ks vs → Reps K θ H xs vs → Rep K θ H (.exc c ks xs) (.ref a)
inductive Reps (K : PySem.W.Frag) (θ : Th) (H : Hp) : List D → List V → Prop
  | nil : Reps K θ H [] []
  | cons {x : D} {v : V} {xs : List D} {vs : List V} : Rep K θ H x v → Reps K θ H xs vs → Reps K θ H (x :: xs) (v :: vs)
end

/-- a later state -/
structure Ext (θ : Th) (H : Hp) (θ' : Th) (H' : Hp) : Prop where
  pre : ∃ l, θ'.l = θ.l ++ l ∧ ∀ a ∈ l, H a = none
  px : θ'.x = θ.x
  keep : ∀ a o, H a = some o → a ∉ θ.l → H' a = some o
  sm : ∀ a, H a ≠ none → H' a ≠ none
theorem Ext.refl {θ : Th} {H : Hp} : Ext θ H θ H := ⟨⟨[], by simp, by simp⟩, rfl, fun _ _ e _ => e, fun _ e => e⟩
theorem Ext.outl {θ θ' : Th} {H H' : Hp} (x : Ext θ H θ' H') {a : Addr} (h1 : a ∉ θ.l) (h2 : H a ≠ none) : a ∉ θ'.l := by
  obtain ⟨l, e, hl⟩ := x.pre
  intro z
  rw [e] at z
  rcases List.mem_append.mp z with z | z
  · exact h1 z
  · exact h2 (hl a z)
theorem Ext.out {θ θ' : Th} {H H' : Hp} (x : Ext θ H θ' H') {a : Addr} (h1 : θ.no a) (h2 : H a ≠ none) : θ'.no a :=
  ⟨x.outl h1.1 h2, by rw [x.px]; exact h1.2⟩
theorem Ext.trans {θ θ1 θ2 : Th} {H H1 H2 : Hp} (x : Ext θ H θ1 H1) (y : Ext θ1 H1 θ2 H2) : Ext θ H θ2 H2 := by
  obtain ⟨l1, e1, n1⟩ := x.pre
  obtain ⟨l2, e2, n2⟩ := y.pre
  refine ⟨⟨l1 ++ l2, by rw [e2, e1, List.append_assoc], fun a ha => ?_⟩, y.px.trans x.px, fun a o e h => ?_, fun a e => y.sm a (x.sm a e)⟩
  · rcases List.mem_append.mp ha with z | z
    · exact n1 a z
    · have q := n2 a z
      cases r : H a with
      | none => rfl
      | some o => exact absurd q (x.sm a (by rw [r]; simp))
  · exact y.keep a o (x.keep a o e h) (x.outl h (by rw [e]; simp))
theorem Ext.at {θ θ' : Th} {H H' : Hp} (x : Ext θ H θ' H') {n : Nat} {a : Addr} (h : θ.l[n]? = some a) : θ'.l[n]? = some a := by
  obtain ⟨l, e, _⟩ := x.pre
  have hn : n < θ.l.length := (List.getElem?_eq_some_iff.mp h).1
  rw [e, List.getElem?_append_left hn]; exact h
theorem Rd.ne {H : Hp} {a : Addr} {u : HO} (h : Rd H a u) : H a ≠ none := by
  rcases h with h | ⟨o, h⟩ <;> (rw [h]; simp)
theorem Ext.rd {θ θ' : Th} {H H' : Hp} (x : Ext θ H θ' H') {a : Addr} {u : HO} (h : Rd H a u) (hn : θ.no a) : Rd H' a u := by
  rcases h with h | ⟨o, h⟩
  · exact .inl (x.keep a _ h hn.1)
  · exact .inr ⟨o, x.keep a _ h hn.1⟩
theorem FT.mono {K : PySem.W.Frag} {θ θ' : Th} {H H' : Hp} {a : Addr} {vs : List V} (h : FT K θ H a vs) (x : Ext θ H θ' H') : FT K θ' H' a vs := by
  rcases h with ⟨h1, h2⟩ | h
  · exact .inl ⟨x.rd h1 h2, x.out h2 (Rd.ne h1)⟩
  · exact .inr h
theorem FL.mono {θ θ' : Th} {H H' : Hp} {a : Addr} {vs : List V} (h : FL θ H a vs) (x : Ext θ H θ' H') : FL θ' H' a vs :=
  ⟨x.keep a _ h.1 h.2.1, x.out h.2 (by rw [h.1]; simp)⟩
theorem FS.mono {K : PySem.W.Frag} {θ θ' : Th} {H H' : Hp} {a : Addr} {vs : List V} (h : FS K θ H a vs) (x : Ext θ H θ' H') : FS K θ' H' a vs := by
  rcases h with ⟨⟨o, h1⟩, h2⟩ | h
  · exact .inl ⟨⟨o, x.keep a _ h1 h2.1⟩, x.out h2 (by rw [h1]; simp)⟩
  · exact .inr h
theorem FD.mono {θ θ' : Th} {H H' : Hp} {a : Addr} {kvs : List (Key × V)} (h : FD θ H a kvs) (x : Ext θ H θ' H') : FD θ' H' a kvs :=
  ⟨x.keep a _ h.1 h.2.1, x.out h.2 (by rw [h.1]; simp)⟩
theorem FX.mono {K : PySem.W.Frag} {θ θ' : Th} {H H' : Hp} {a : Addr} {c : Str} {ks : List Str} {vs : List V} (h : FX K θ H a c ks vs) (x : Ext θ H θ' H') : FX K θ' H' a c ks vs := by
  rcases h with ⟨h1, h2, h3, h4⟩ | ⟨dx, h1, h2, h3, h4, h5⟩
  · exact .inl ⟨x.keep a _ h1 h2.1, x.out h2 (by rw [h1]; simp), h3, h4⟩
  · exact .inr ⟨dx, x.keep a _ h1 h2.1, x.out h2 (by rw [h1]; simp), x.keep dx _ h3 h4.1, x.out h4 (by rw [h3]; simp), h5⟩
mutual
theorem Rep.mono {K : PySem.W.Frag} {θ θ' : Th} {H H' : Hp} (x : Ext θ H θ' H') : ∀ {d : D} {v : V}, Rep K θ H d v → Rep K θ' H' d v
  | _, _, .non => .non
  | _, _, .bl b => .bl b
  | _, _, .int i => .int i
  | _, _, .str s => .str s
  | _, _, .ty n => .ty n
  | _, _, .glo n => .glo n
  | _, _, .ref h => .ref (x.at h)
  | _, _, .tup h r => .tup (h.mono x) (Reps.mono x r)
  | _, _, .lst h r => .lst (h.mono x) (Reps.mono x r)
  | _, _, .scr h r => .scr (h.mono x) (Reps.mono x r)
  | _, _, .dic h l r => .dic (h.mono x) l (Reps.mono x r)
  | _, _, .exc h r => .exc (h.mono x) (Reps.mono x r)
theorem Reps.mono {K : PySem.W.Frag} {θ θ' : Th} {H H' : Hp} (x : Ext θ H θ' H') : ∀ {ds : List D} {vs : List V}, Reps K θ H ds vs → Reps K θ' H' ds vs
  | _, _, .nil => .nil
  | _, _, .cons r t => .cons (Rep.mono x r) (Reps.mono x t)
end
section
variable {K : PySem.W.Frag} {θ θ' : Th} {H H' : Hp}
theorem Reps.len : ∀ {ds : List D} {vs : List V}, Reps K θ H ds vs → ds.length = vs.length
  | _, _, .nil => rfl
  | _, _, .cons _ t => by simp [Reps.len t]
theorem Reps.get : ∀ {ds : List D} {vs : List V} {i : Nat} {d : D}, Reps K θ H ds vs → ds[i]? = some d → ∃ v, vs[i]? = some v ∧ Rep K θ H d v
  | _, _, _, _, .nil, e => by simp at e
  | _, _, 0, _, .cons r _, e => by simp at e; subst e; exact ⟨_, rfl, r⟩
  | _, _, i + 1, d, .cons _ t, e => by
    obtain ⟨v, h1, h2⟩ := Reps.get (i := i) (d := d) t (by simpa using e)
    exact ⟨v, by simpa using h1, h2⟩
theorem Reps.getV : ∀ {ds : List D} {vs : List V} {i : Nat} {v : V}, Reps K θ H ds vs → vs[i]? = some v → ∃ d, ds[i]? = some d ∧ Rep K θ H d v
  | _, _, _, _, .nil, e => by simp at e
  | _, _, 0, _, .cons r _, e => by simp at e; subst e; exact ⟨_, rfl, r⟩
  | _, _, i + 1, d, .cons _ t, e => by
    obtain ⟨v, h1, h2⟩ := Reps.getV (i := i) (v := d) t (by simpa using e)
    exact ⟨v, by simpa using h1, h2⟩
theorem Reps.append : ∀ {ds es : List D} {vs us : List V}, Reps K θ H ds vs → Reps K θ H es us → Reps K θ H (ds ++ es) (vs ++ us)
  | _, _, _, _, .nil, s => s
  | _, _, _, _, .cons r t, s => .cons r (Reps.append t s)
theorem Reps.take : ∀ {ds : List D} {vs : List V} (n : Nat), Reps K θ H ds vs → Reps K θ H (ds.take n) (vs.take n)
  | _, _, 0, _ => by simp; exact .nil
  | _, _, _ + 1, .nil => .nil
  | _, _, n + 1, .cons r t => .cons r (Reps.take n t)
theorem Reps.drop : ∀ {ds : List D} {vs : List V} (n : Nat), Reps K θ H ds vs → Reps K θ H (ds.drop n) (vs.drop n)
  | _, _, 0, r => by simpa using r
  | _, _, _ + 1, .nil => .nil
  | _, _, n + 1, .cons _ t => Reps.drop n t
theorem Reps.set {x : D} {v : V} (r : Rep K θ H x v) : ∀ {ds : List D} {vs : List V} (i : Nat), Reps K θ H ds vs → Reps K θ H (ds.set i x) (vs.set i v)
  | _, _, _, .nil => .nil
  | _, _, 0, .cons _ t => .cons r t
  | _, _, i + 1, .cons q t => .cons q (Reps.set r i t)
theorem Reps.snoc {x : D} {v : V} {ds : List D} {vs : List V} (t : Reps K θ H ds vs) (r : Rep K θ H x v) : Reps K θ H (ds ++ [x]) (vs ++ [v]) := t.append (.cons r .nil)
end

/-! ### mutable things -/
inductive Repf (K : PySem.W.Frag) (θ : Th) (H : Hp) : List (Str × D) → List (Str × V) → Prop
  | nil : Repf K θ H [] []
  | cons {f : Str} {x : D} {v : V} {xs : List (Str × D)} {vs : List (Str × V)} : Rep K θ H x v → Repf K θ H xs vs → Repf K θ H ((f, x) :: xs) ((f, v) :: vs)
def ObRep (K : PySem.W.Frag) (θ : Th) (H : Hp) (a : Addr) : AO → Prop
  | .lst xs => ∃ vs, H a = some (.lst vs) ∧ Reps K θ H xs vs
  | .dic ks xs => ∃ vs, H a = some (.dK (ks.zip vs)) ∧ ks.length = vs.length ∧ Reps K θ H xs vs
  | .ins c fs => ∃ dx vs, H a = some (.ins (He.ga K c) dx vs) ∧ dx ∉ θ.l ∧ H dx = some (.own a) ∧ Repf K θ H fs vs
structure HRep (K : PySem.W.Frag) (θ : Th) (H : Hp) (h : AH) : Prop where
  len : θ.l.length = h.length
  nd : θ.l.Nodup
  ob : ∀ (n : Nat) (a : Addr) (o : AO), θ.l[n]? = some a → h[n]? = some o → ObRep K θ H a o
  pv : ∀ a ∈ θ.x, H a ≠ none
def EnvRep (K : PySem.W.Frag) (θ : Th) (H : Hp) (σ : St) (ρ : List (Option D)) : Prop :=
  σ.length = ρ.length ∧ ∀ (i : Nat) (d : D), ρ[i]? = some (some d) → ∃ v, σ[i]? = some (some v) ∧ Rep K θ H d v
theorem EnvRep.mono {K : PySem.W.Frag} {θ θ' : Th} {H H' : Hp} {σ : St} {ρ : List (Option D)} (h : EnvRep K θ H σ ρ) (x : Ext θ H θ' H') : EnvRep K θ' H' σ ρ :=
  ⟨h.1, fun i d e => let ⟨v, h1, h2⟩ := h.2 i d e; ⟨v, h1, h2.mono x⟩⟩
theorem EnvRep.set {K : PySem.W.Frag} {θ : Th} {H : Hp} {σ : St} {ρ : List (Option D)} (h : EnvRep K θ H σ ρ) {d : D} {v : V} (r : Rep K θ H d v) (i : Nat) : EnvRep K θ H (σ.set i (some v)) (ρ.set i (some d)) := by
  refine ⟨by simpa using h.1, fun j e q => ?_⟩
  by_cases hj : i = j
  · subst hj
    have hi : i < ρ.length := by
      have := (List.getElem?_eq_some_iff.mp q).1
      simpa using this
    rw [List.getElem?_set_self hi] at q
    cases q
    exact ⟨v, by rw [List.getElem?_set_self (by rw [h.1]; exact hi)], r⟩
  · rw [List.getElem?_set_ne hj] at q
    obtain ⟨w, h1, h2⟩ := h.2 j e q
    exact ⟨w, by rw [List.getElem?_set_ne hj]; exact h1, h2⟩
theorem Repf.mono {K : PySem.W.Frag} {θ θ' : Th} {H H' : Hp} (x : Ext θ H θ' H') : ∀ {fs : List (Str × D)} {vs : List (Str × V)}, Repf K θ H fs vs → Repf K θ' H' fs vs
  | _, _, .nil => .nil
  | _, _, .cons r t => .cons (r.mono x) (Repf.mono x t)
theorem ObRep.mono {K : PySem.W.Frag} {θ θ' : Th} {H H' : Hp} {a : Addr} {o : AO} (r : ObRep K θ H a o) (x : Ext θ H θ' H') (e : H' a = H a) : ObRep K θ' H' a o := by
  cases o with
  | lst xs =>
    obtain ⟨vs, h, r⟩ := r
    exact ⟨vs, e.trans h, r.mono x⟩
  | dic ks xs =>
    obtain ⟨vs, h, l, r⟩ := r
    exact ⟨vs, e.trans h, l, r.mono x⟩
  | ins c fs =>
    obtain ⟨dx, vs, h, n, o, r⟩ := r
    exact ⟨dx, vs, e.trans h, x.outl n (by rw [o]; simp), x.keep dx _ o n, r.mono x⟩
/-- the mutable things stand as they stood -/
theorem HRep.keep {K : PySem.W.Frag} {θ θ' : Th} {H H' : Hp} {h : AH} (r : HRep K θ H h) (x : Ext θ H θ' H') (l : θ'.l = θ.l) (e : ∀ a ∈ θ.l, H' a = H a) : HRep K θ' H' h :=
  ⟨by rw [l]; exact r.len, by rw [l]; exact r.nd, fun n a o h1 h2 => by
    rw [l] at h1
    exact (r.ob n a o h1 h2).mono x (e a (List.mem_of_getElem? h1)), fun a ha => x.sm a (r.pv a (by rw [← x.px]; exact ha))⟩
theorem HRep.has {K : PySem.W.Frag} {θ : Th} {H : Hp} {h : AH} (r : HRep K θ H h) {a : Addr} (ha : a ∈ θ.l) : H a ≠ none := by
  obtain ⟨n, hn, e⟩ := List.getElem_of_mem ha
  have h1 : θ.l[n]? = some a := List.getElem?_eq_some_iff.mpr ⟨hn, e⟩
  have h2 : n < h.length := by rw [← r.len]; exact hn
  have q := r.ob n a h[n] h1 (List.getElem?_eq_some_iff.mpr ⟨h2, rfl⟩)
  cases o : h[n] with
  | lst xs => rw [o] at q; obtain ⟨vs, z, _⟩ := q; rw [z]; simp
  | dic ks xs => rw [o] at q; obtain ⟨vs, z, _⟩ := q; rw [z]; simp
  | ins c fs => rw [o] at q; obtain ⟨dx, vs, z, _⟩ := q; rw [z]; simp
theorem HRep.fresh {K : PySem.W.Frag} {θ : Th} {H : Hp} {h : AH} (r : HRep K θ H h) {p : Addr} (hp : H p = none) : θ.no p := ⟨fun z => r.has z hp, fun z => r.pv p z hp⟩
/-- something new that is no mutable thing of ours -/
theorem Ext.laid {θ : Th} {H : Hp} {p : Addr} {o : HO} (hp : H p = none) : Ext θ H θ (upd H p o) :=
  ⟨⟨[], by simp, by simp⟩, rfl, fun a u e _ => by rw [upd_ne (ne_of_none e hp)]; exact e, fun a e => by
    by_cases z : a = p
    · subst z; rw [upd_same]; simp
    · rw [upd_ne z]; exact e⟩
theorem HRep.laid {K : PySem.W.Frag} {θ : Th} {H : Hp} {h : AH} (r : HRep K θ H h) {p : Addr} {o : HO} (hp : H p = none) : HRep K θ (upd H p o) h :=
  r.keep (Ext.laid hp) rfl fun a ha => upd_ne fun z => r.has ha (by rw [z]; exact hp)
/-- a new mutable thing -/
theorem Ext.new {θ : Th} {H : Hp} {p : Addr} {o : HO} (hp : H p = none) : Ext θ H (θ.add p) (upd H p o) :=
  ⟨⟨[p], rfl, by simpa using hp⟩, rfl, (Ext.laid (θ := θ) hp).keep, (Ext.laid (θ := θ) hp).sm⟩
theorem HRep.new {K : PySem.W.Frag} {θ : Th} {H : Hp} {h : AH} (r : HRep K θ H h) {p : Addr} {o : HO} {ao : AO} (hp : H p = none) (q : ObRep K (θ.add p) (upd H p o) p ao) : HRep K (θ.add p) (upd H p o) (h ++ [ao]) := by
  refine ⟨by simp [Th.add, r.len], ?_, fun n a x h1 h2 => ?_, fun a ha => (Ext.laid (θ := θ) hp).sm a (r.pv a ha)⟩
  · show (θ.l ++ [p]).Nodup
    rw [List.nodup_append]
    refine ⟨r.nd, by simp, fun a ha b hb => ?_⟩
    have e : b = p := by simpa using hb
    subst e
    intro z
    subst z
    exact r.has ha hp
  · have h1 : (θ.l ++ [p])[n]? = some a := h1
    by_cases hn : n < θ.l.length
    · rw [List.getElem?_append_left hn] at h1
      rw [List.getElem?_append_left (by rw [← r.len]; exact hn)] at h2
      exact (r.ob n a x h1 h2).mono (Ext.new hp) (upd_ne fun z => r.has (List.mem_of_getElem? h1) (by rw [z]; exact hp))
    · have hl : n < (θ.l ++ [p]).length := (List.getElem?_eq_some_iff.mp h1).1
      have e : n = θ.l.length := by simp at hl; omega
      subst e
      rw [List.getElem?_append_right (Nat.le_refl _)] at h1
      rw [r.len, List.getElem?_append_right (Nat.le_refl _)] at h2
      simp at h1 h2
      subst h1 h2
      exact q
/-- a mutable thing changed -/
theorem Ext.wrote {θ : Th} {H : Hp} {p : Addr} {o : HO} (hp : p ∈ θ.l) : Ext θ H θ (upd H p o) :=
  ⟨⟨[], by simp, by simp⟩, rfl, fun a u e n => by rw [upd_ne (fun z => n (by rw [z]; exact hp))]; exact e, fun a e => by
    by_cases z : a = p
    · subst z; rw [upd_same]; simp
    · rw [upd_ne z]; exact e⟩
theorem nodup_at {l : List Addr} (hN : l.Nodup) {i j : Nat} {x : Addr} (a : l[i]? = some x) (b : l[j]? = some x) : i = j := by
  obtain ⟨h1, e1⟩ := List.getElem?_eq_some_iff.mp a
  obtain ⟨h2, e2⟩ := List.getElem?_eq_some_iff.mp b
  exact (List.getElem_inj hN).mp (e1.trans e2.symm)
theorem HRep.wrote {K : PySem.W.Frag} {θ : Th} {H : Hp} {h : AH} (r : HRep K θ H h) {m : Nat} {p : Addr} {o : HO} {ao : AO} (hp : θ.l[m]? = some p) (q : ObRep K θ (upd H p o) p ao) : HRep K θ (upd H p o) (h.set m ao) := by
  have hm : p ∈ θ.l := List.mem_of_getElem? hp
  have hml : m < θ.l.length := (List.getElem?_eq_some_iff.mp hp).1
  refine ⟨by simp [r.len], r.nd, fun n a x h1 h2 => ?_, fun a ha => (Ext.wrote (H := H) (o := o) hm).sm a (r.pv a ha)⟩
  by_cases e : m = n
  · subst e
    rw [h1] at hp; cases hp
    rw [List.getElem?_set_self (by rw [← r.len]; exact hml)] at h2
    cases h2
    exact q
  · rw [List.getElem?_set_ne e] at h2
    refine (r.ob n a x h1 h2).mono (Ext.wrote hm) (upd_ne fun z => ?_)
    subst z
    exact e (nodup_at r.nd hp h1)
/-! ### what is private to a rule -/
section
variable {K : PySem.W.Frag} {θ : Th} {H : Hp} {p : Addr} {o : HO}
/-- the relation, carried over any change that keeps what data may stand on -/
structure Mv (θ : Th) (H : Hp) (θ' : Th) (H' : Hp) : Prop where
  l : ∀ (n : Nat) (a : Addr), θ.l[n]? = some a → θ'.l[n]? = some a
  keep : ∀ a u, H a = some u → θ.no a → H' a = some u ∧ θ'.no a
mutual
theorem Rep.mv {θ' : Th} {H' : Hp} (x : Mv θ H θ' H') : ∀ {d : D} {v : V}, Rep K θ H d v → Rep K θ' H' d v
  | _, _, .non => .non
  | _, _, .bl b => .bl b
  | _, _, .int i => .int i
  | _, _, .str s => .str s
  | _, _, .ty n => .ty n
  | _, _, .glo n => .glo n
  | _, _, .ref h => .ref (x.l _ _ h)
  | _, _, .tup h r => .tup (by
      rcases h with ⟨h | ⟨o, h⟩, n⟩ | h
      · exact .inl ⟨.inl (x.keep _ _ h n).1, (x.keep _ _ h n).2⟩
      · exact .inl ⟨.inr ⟨o, (x.keep _ _ h n).1⟩, (x.keep _ _ h n).2⟩
      · exact .inr h) (Reps.mv x r)
  | _, _, .lst h r => .lst ⟨(x.keep _ _ h.1 h.2).1, (x.keep _ _ h.1 h.2).2⟩ (Reps.mv x r)
  | _, _, .scr h r => .scr (by
      rcases h with ⟨⟨o, h⟩, n⟩ | h
      · exact .inl ⟨⟨o, (x.keep _ _ h n).1⟩, (x.keep _ _ h n).2⟩
      · exact .inr h) (Reps.mv x r)
  | _, _, .dic h l r => .dic ⟨(x.keep _ _ h.1 h.2).1, (x.keep _ _ h.1 h.2).2⟩ l (Reps.mv x r)
  | _, _, .exc h r => .exc (by
      rcases h with ⟨h1, h2, h3, h4⟩ | ⟨dx, h1, h2, h3, h4, h5⟩
      · exact .inl ⟨(x.keep _ _ h1 h2).1, (x.keep _ _ h1 h2).2, h3, h4⟩
      · exact .inr ⟨dx, (x.keep _ _ h1 h2).1, (x.keep _ _ h1 h2).2, (x.keep _ _ h3 h4).1, (x.keep _ _ h3 h4).2, h5⟩) (Reps.mv x r)
theorem Reps.mv {θ' : Th} {H' : Hp} (x : Mv θ H θ' H') : ∀ {ds : List D} {vs : List V}, Reps K θ H ds vs → Reps K θ' H' ds vs
  | _, _, .nil => .nil
  | _, _, .cons r t => .cons (Rep.mv x r) (Reps.mv x t)
end
theorem Repf.mv {θ' : Th} {H' : Hp} (x : Mv θ H θ' H') : ∀ {fs : List (Str × D)} {vs : List (Str × V)}, Repf K θ H fs vs → Repf K θ' H' fs vs
  | _, _, .nil => .nil
  | _, _, .cons r t => .cons (r.mv x) (Repf.mv x t)
theorem EnvRep.mv {θ' : Th} {H' : Hp} {σ : St} {ρ : List (Option D)} (h : EnvRep K θ H σ ρ) (x : Mv θ H θ' H') : EnvRep K θ' H' σ ρ :=
  ⟨h.1, fun i d e => let ⟨v, h1, h2⟩ := h.2 i d e; ⟨v, h1, h2.mv x⟩⟩
theorem HRep.mv {θ' : Th} {H' : Hp} {h : AH} (r : HRep K θ H h) (x : Mv θ H θ' H') (hl : θ'.l = θ.l) (e : ∀ a ∈ θ.l, H' a = H a) (eo : ∀ a dx, H dx = some (.own a) → H' dx = some (.own a)) (pv : ∀ a ∈ θ'.x, H' a ≠ none) : HRep K θ' H' h := by
  refine ⟨by rw [hl]; exact r.len, by rw [hl]; exact r.nd, fun n a u h1 h2 => ?_, pv⟩
  rw [hl] at h1
  have q := r.ob n a u h1 h2
  have ea := e a (List.mem_of_getElem? h1)
  cases u with
  | lst xs => obtain ⟨vs, z, r⟩ := q; exact ⟨vs, ea.trans z, r.mv x⟩
  | dic ks xs => obtain ⟨vs, z, l, r⟩ := q; exact ⟨vs, ea.trans z, l, r.mv x⟩
  | ins c fs => obtain ⟨dx, vs, z, n, ow, r⟩ := q; exact ⟨dx, vs, ea.trans z, by rw [hl]; exact n, eo a dx ow, r.mv x⟩
/-- p becomes private: it is new -/
theorem Mv.hide (hp : H p = none) : Mv θ H (θ.hide p) (upd H p o) :=
  ⟨fun _ _ e => e, fun a u e n => ⟨by rw [upd_ne (ne_of_none e hp)]; exact e, n.1, fun z => by
    rcases List.mem_cons.mp (show a ∈ p :: θ.x from z) with z | z
    · exact ne_of_none e hp z
    · exact n.2 z⟩⟩
/-- what is private changes -/
theorem Mv.priv : Mv (θ.hide p) H (θ.hide p) (upd H p o) :=
  ⟨fun _ _ e => e, fun a u e n => ⟨by rw [upd_ne (fun z => n.2 (by rw [z]; exact List.mem_cons_self))]; exact e, n⟩⟩
/-- it is given away -/
theorem Mv.show : Mv (θ.hide p) H θ H :=
  ⟨fun _ _ e => e, fun a u e n => ⟨e, n.1, fun z => n.2 (List.mem_cons_of_mem _ z)⟩⟩
theorem Mv.give : Mv (θ.hide p) H (θ.add p) H :=
  ⟨fun n a e => by
    have e : θ.l[n]? = some a := e
    show (θ.l ++ [p])[n]? = some a
    rw [List.getElem?_append_left (List.getElem?_eq_some_iff.mp e).1]
    exact e, fun a u e n => ⟨e, fun z => by
      rcases List.mem_append.mp (show a ∈ θ.l ++ [p] from z) with z | z
      · exact n.1 z
      · exact n.2 (by rw [show a = p by simpa using z]; exact List.mem_cons_self), fun z => n.2 (List.mem_cons_of_mem _ z)⟩⟩
theorem HRep.hide {h : AH} (r : HRep K θ H h) (hp : H p = none) : HRep K (θ.hide p) (upd H p o) h :=
  r.mv (Mv.hide hp) rfl (fun a ha => upd_ne fun z => r.has ha (by rw [z]; exact hp)) (fun a dx e => by rw [upd_ne (ne_of_none e hp)]; exact e) fun a ha => by
    rcases List.mem_cons.mp (show a ∈ p :: θ.x from ha) with z | z
    · subst z; rw [upd_same]; simp
    · exact (Ext.laid (θ := θ) hp).sm a (r.pv a z)
theorem HRep.priv {h : AH} (r : HRep K (θ.hide p) H h) {vs : List V} (hp : H p = some (.lst vs)) (hn : p ∉ θ.l) : HRep K (θ.hide p) (upd H p o) h :=
  r.mv Mv.priv rfl (fun a ha => upd_ne fun z => hn (by rw [← z]; exact ha)) (fun a dx e => by rw [upd_ne (ne_of e hp (by intro z; cases z))]; exact e) fun a ha => by
    by_cases z : a = p
    · subst z; rw [upd_same]; simp
    · rw [upd_ne z]; exact r.pv a ha
theorem HRep.show {h : AH} (r : HRep K (θ.hide p) H h) : HRep K θ H h :=
  r.mv Mv.show rfl (fun _ _ => rfl) (fun _ _ e => e) fun a ha => r.pv a (List.mem_cons_of_mem _ ha)
theorem HRep.give {h : AH} (r : HRep K (θ.hide p) H h) {xs : List D} {vs : List V} (hp : H p = some (.lst vs)) (rs : Reps K (θ.hide p) H xs vs) (hn : p ∉ θ.l) : HRep K (θ.add p) H (h ++ [.lst xs]) := by
  have rl : θ.l.length = h.length := r.len
  refine ⟨by simp [Th.add, rl], ?_, fun n a u h1 h2 => ?_, fun a ha => r.pv a (List.mem_cons_of_mem _ ha)⟩
  · show (θ.l ++ [p]).Nodup
    rw [List.nodup_append]
    refine ⟨r.nd, by simp, fun a ha b hb => ?_⟩
    have e : b = p := by simpa using hb
    subst e
    intro z
    subst z
    exact hn ha
  · have h1 : (θ.l ++ [p])[n]? = some a := h1
    by_cases hk : n < θ.l.length
    · rw [List.getElem?_append_left hk] at h1
      rw [List.getElem?_append_left (by rw [← rl]; exact hk)] at h2
      have q := r.ob n a u h1 h2
      cases u with
      | lst xs => obtain ⟨vs, z, r⟩ := q; exact ⟨vs, z, r.mv Mv.give⟩
      | dic ks xs => obtain ⟨vs, z, l, r⟩ := q; exact ⟨vs, z, l, r.mv Mv.give⟩
      | ins c fs =>
        obtain ⟨dx, vs, z, n, ow, r⟩ := q
        refine ⟨dx, vs, z, fun m => ?_, ow, r.mv Mv.give⟩
        rcases List.mem_append.mp (show dx ∈ θ.l ++ [p] from m) with m | m
        · exact n m
        · rw [show dx = p by simpa using m, hp] at ow; cases ow
    · have hl : n < (θ.l ++ [p]).length := (List.getElem?_eq_some_iff.mp h1).1
      have e : n = θ.l.length := by simp at hl; omega
      subst e
      rw [List.getElem?_append_right (Nat.le_refl _)] at h1
      rw [rl, List.getElem?_append_right (Nat.le_refl _)] at h2
      simp at h1 h2
      subst h1 h2
      exact ⟨vs, hp, rs.mv Mv.give⟩
end

/-! ### readings by computations -/
/-- what an exception must satisfy: its class, its fields, the heap -/
abbrev EK := Str → List (Str × D) → AH → List Addr → Hp → Prop
def After (K : PySem.W.Frag) (θ : Th) (H : Hp) (E : Str → List (Str × V) → Hp → Prop) : R D → VK → Prop
  | .ok d h', Q => ∀ v θ' H', Ext θ H θ' H' → HRep K θ' H' h' → Rep K θ' H' d v → Q v H'
  | .exc c fs h', _ => ∀ vs θ' H', Ext θ H θ' H' → HRep K θ' H' h' → Repf K θ' H' fs vs → E c vs H'
  | .bad, _ => False
abbrev XW := Str → List (Str × V) → Hp → Prop
theorem After.ext {K : PySem.W.Frag} {θ θ1 : Th} {H H1 : Hp} {E : XW} {r : R D} {Q : VK} (a : After K θ H E r Q) (x : Ext θ H θ1 H1) : After K θ1 H1 E r Q := by
  cases r with
  | ok d h' => exact fun v θ' H' y hr rp => a v θ' H' (x.trans y) hr rp
  | exc c fs h' => exact fun vs θ' H' y hr rp => a vs θ' H' (x.trans y) hr rp
  | bad => exact a
theorem After.mono {K : PySem.W.Frag} {θ : Th} {H : Hp} {E : XW} {r : R D} {Q Q' : VK} (a : After K θ H E r Q) (h : ∀ v H', Q v H' → Q' v H') : After K θ H E r Q' := by
  cases r with
  | ok d h' => exact fun v θ' H' y hr rp => h _ _ (a v θ' H' y hr rp)
  | exc c fs h' => exact a
  | bad => exact a
/-- the usual end: a value, the heap as it is or further on -/
theorem After.at {K : PySem.W.Frag} {θ θ1 : Th} {H H1 : Hp} {E : XW} {d : D} {h : AH} {Q : VK} {v : V} (a : After K θ H E (.ok d h) Q) (x : Ext θ H θ1 H1) (hr : HRep K θ1 H1 h) (r : Rep K θ1 H1 d v) : Q v H1 := a v θ1 H1 x hr r
abbrev Ev := List (Option D)
def tM (K : PySem.W.Frag) (E : XW) (m : Ev → AH → R D) : TE := fun σ H Q => ∃ θ ρ h, EnvRep K θ H σ ρ ∧ HRep K θ H h ∧ After K θ H E (m ρ h) Q
/-- .. a test -/
def AfterT (K : PySem.W.Frag) (θ : Th) (H : Hp) (E : XW) : R Bool → (Bool → Hp → Prop) → Prop
  | .ok b h', Q => ∀ θ' H', Ext θ H θ' H' → HRep K θ' H' h' → Q b H'
  | .exc c fs h', _ => ∀ vs θ' H', Ext θ H θ' H' → HRep K θ' H' h' → Repf K θ' H' fs vs → E c vs H'
  | .bad, _ => False
theorem AfterT.ext {K : PySem.W.Frag} {θ θ1 : Th} {H H1 : Hp} {E : XW} {r : R Bool} {Q : Bool → Hp → Prop} (a : AfterT K θ H E r Q) (x : Ext θ H θ1 H1) : AfterT K θ1 H1 E r Q := by
  cases r with
  | ok d h' => exact fun θ' H' y hr => a θ' H' (x.trans y) hr
  | exc c fs h' => exact fun vs θ' H' y hr rp => a vs θ' H' (x.trans y) hr rp
  | bad => exact a
def tMT (K : PySem.W.Frag) (E : XW) (m : Ev → AH → R Bool) : TT := fun σ H Q => ∃ θ ρ h, EnvRep K θ H σ ρ ∧ HRep K θ H h ∧ AfterT K θ H E (m ρ h) Q
/-- .. arguments -/
def AfterL (K : PySem.W.Frag) (θ : Th) (H : Hp) (E : XW) : R (List D) → (List V → Hp → Prop) → Prop
  | .ok ds h', Q => ∀ vs θ' H', Ext θ H θ' H' → HRep K θ' H' h' → Reps K θ' H' ds vs → Q vs H'
  | .exc c fs h', _ => ∀ vs θ' H', Ext θ H θ' H' → HRep K θ' H' h' → Repf K θ' H' fs vs → E c vs H'
  | .bad, _ => False
theorem AfterL.ext {K : PySem.W.Frag} {θ θ1 : Th} {H H1 : Hp} {E : XW} {r : R (List D)} {Q : List V → Hp → Prop} (a : AfterL K θ H E r Q) (x : Ext θ H θ1 H1) : AfterL K θ1 H1 E r Q := by
  cases r with
  | ok d h' => exact fun vs θ' H' y hr rp => a vs θ' H' (x.trans y) hr rp
  | exc c fs h' => exact fun vs θ' H' y hr rp => a vs θ' H' (x.trans y) hr rp
  | bad => exact a
def tML (K : PySem.W.Frag) (E : XW) (m : Ev → AH → R (List D)) : TA := fun σ H Q => ∃ θ ρ h, EnvRep K θ H σ ρ ∧ HRep K θ H h ∧ AfterL K θ H E (m ρ h) Q

/-! ### sequencing: a reading of the first, then the rest -/
section
variable {K : PySem.W.Frag} {E : XW} {σ : St} {H : Hp} {θ : Th} {ρ : Ev} {h : AH}
theorem seqE {m : Ev → AH → R D} {f : D → AH → R D} {Q : VK} {Q' : VK} (e : EnvRep K θ H σ ρ) (hr : HRep K θ H h) (a : After K θ H E ((m ρ h).bind f) Q)
    (k : ∀ d h1 v θ1 H1, m ρ h = .ok d h1 → Ext θ H θ1 H1 → EnvRep K θ1 H1 σ ρ → HRep K θ1 H1 h1 → Rep K θ1 H1 d v → After K θ1 H1 E (f d h1) Q → Q' v H1) : tM K E m σ H Q' := by
  refine ⟨θ, ρ, h, e, hr, ?_⟩
  cases q : m ρ h with
  | ok d h1 =>
    rw [q] at a
    exact fun v θ1 H1 x hr1 rp => k d h1 v θ1 H1 q x (e.mono x) hr1 rp (After.ext a x)
  | exc c fs h1 => rw [q] at a; exact a
  | bad => rw [q] at a; exact a
theorem seqET {m : Ev → AH → R D} {f : D → AH → R Bool} {Q : Bool → Hp → Prop} {Q' : VK} (e : EnvRep K θ H σ ρ) (hr : HRep K θ H h) (a : AfterT K θ H E ((m ρ h).bind f) Q)
    (k : ∀ d h1 v θ1 H1, m ρ h = .ok d h1 → Ext θ H θ1 H1 → EnvRep K θ1 H1 σ ρ → HRep K θ1 H1 h1 → Rep K θ1 H1 d v → AfterT K θ1 H1 E (f d h1) Q → Q' v H1) : tM K E m σ H Q' := by
  refine ⟨θ, ρ, h, e, hr, ?_⟩
  cases q : m ρ h with
  | ok d h1 =>
    rw [q] at a
    exact fun v θ1 H1 x hr1 rp => k d h1 v θ1 H1 q x (e.mono x) hr1 rp (AfterT.ext a x)
  | exc c fs h1 => rw [q] at a; exact a
  | bad => rw [q] at a; exact a
theorem seqTE {m : Ev → AH → R Bool} {f : Bool → AH → R D} {Q : VK} {Q' : Bool → Hp → Prop} (e : EnvRep K θ H σ ρ) (hr : HRep K θ H h) (a : After K θ H E ((m ρ h).bind f) Q)
    (k : ∀ b h1 θ1 H1, m ρ h = .ok b h1 → Ext θ H θ1 H1 → EnvRep K θ1 H1 σ ρ → HRep K θ1 H1 h1 → After K θ1 H1 E (f b h1) Q → Q' b H1) : tMT K E m σ H Q' := by
  refine ⟨θ, ρ, h, e, hr, ?_⟩
  cases q : m ρ h with
  | ok d h1 =>
    rw [q] at a
    exact fun θ1 H1 x hr1 => k d h1 θ1 H1 q x (e.mono x) hr1 (After.ext a x)
  | exc c fs h1 => rw [q] at a; exact a
  | bad => rw [q] at a; exact a
theorem seqTT {m : Ev → AH → R Bool} {f : Bool → AH → R Bool} {Q : Bool → Hp → Prop} {Q' : Bool → Hp → Prop} (e : EnvRep K θ H σ ρ) (hr : HRep K θ H h) (a : AfterT K θ H E ((m ρ h).bind f) Q)
    (k : ∀ b h1 θ1 H1, m ρ h = .ok b h1 → Ext θ H θ1 H1 → EnvRep K θ1 H1 σ ρ → HRep K θ1 H1 h1 → AfterT K θ1 H1 E (f b h1) Q → Q' b H1) : tMT K E m σ H Q' := by
  refine ⟨θ, ρ, h, e, hr, ?_⟩
  cases q : m ρ h with
  | ok d h1 =>
    rw [q] at a
    exact fun θ1 H1 x hr1 => k d h1 θ1 H1 q x (e.mono x) hr1 (AfterT.ext a x)
  | exc c fs h1 => rw [q] at a; exact a
  | bad => rw [q] at a; exact a
theorem seqLE {m : Ev → AH → R (List D)} {f : List D → AH → R D} {Q : VK} {Q' : List V → Hp → Prop} (e : EnvRep K θ H σ ρ) (hr : HRep K θ H h) (a : After K θ H E ((m ρ h).bind f) Q)
    (k : ∀ ds h1 vs θ1 H1, m ρ h = .ok ds h1 → Ext θ H θ1 H1 → EnvRep K θ1 H1 σ ρ → HRep K θ1 H1 h1 → Reps K θ1 H1 ds vs → After K θ1 H1 E (f ds h1) Q → Q' vs H1) : tML K E m σ H Q' := by
  refine ⟨θ, ρ, h, e, hr, ?_⟩
  cases q : m ρ h with
  | ok d h1 =>
    rw [q] at a
    exact fun v θ1 H1 x hr1 rp => k d h1 v θ1 H1 q x (e.mono x) hr1 rp (After.ext a x)
  | exc c fs h1 => rw [q] at a; exact a
  | bad => rw [q] at a; exact a
theorem seqEL {m : Ev → AH → R D} {f : D → AH → R (List D)} {Q : List V → Hp → Prop} {Q' : VK} (e : EnvRep K θ H σ ρ) (hr : HRep K θ H h) (a : AfterL K θ H E ((m ρ h).bind f) Q)
    (k : ∀ d h1 v θ1 H1, m ρ h = .ok d h1 → Ext θ H θ1 H1 → EnvRep K θ1 H1 σ ρ → HRep K θ1 H1 h1 → Rep K θ1 H1 d v → AfterL K θ1 H1 E (f d h1) Q → Q' v H1) : tM K E m σ H Q' := by
  refine ⟨θ, ρ, h, e, hr, ?_⟩
  cases q : m ρ h with
  | ok d h1 =>
    rw [q] at a
    exact fun v θ1 H1 x hr1 rp => k d h1 v θ1 H1 q x (e.mono x) hr1 rp (AfterL.ext a x)
  | exc c fs h1 => rw [q] at a; exact a
  | bad => rw [q] at a; exact a
theorem seqLL {m : Ev → AH → R (List D)} {f : List D → AH → R (List D)} {Q : List V → Hp → Prop} {Q' : List V → Hp → Prop} (e : EnvRep K θ H σ ρ) (hr : HRep K θ H h) (a : AfterL K θ H E ((m ρ h).bind f) Q)
    (k : ∀ ds h1 vs θ1 H1, m ρ h = .ok ds h1 → Ext θ H θ1 H1 → EnvRep K θ1 H1 σ ρ → HRep K θ1 H1 h1 → Reps K θ1 H1 ds vs → AfterL K θ1 H1 E (f ds h1) Q → Q' vs H1) : tML K E m σ H Q' := by
  refine ⟨θ, ρ, h, e, hr, ?_⟩
  cases q : m ρ h with
  | ok d h1 =>
    rw [q] at a
    exact fun v θ1 H1 x hr1 rp => k d h1 v θ1 H1 q x (e.mono x) hr1 rp (AfterL.ext a x)
  | exc c fs h1 => rw [q] at a; exact a
  | bad => rw [q] at a; exact a
end
section
variable {X : Cx} {e : Expr}
theorem PE.wk {t t' : TE} (h : PE X e t) (w : ∀ σ H Q, t' σ H Q → t σ H Q) : PE X e t' := ⟨fun pins s σ H Q I hq => h.run pins s σ H Q I (w σ H Q hq)⟩
theorem PT.wk {t t' : TT} (h : PT X e t) (w : ∀ σ H Q, t' σ H Q → t σ H Q) : PT X e t' := ⟨fun pins s σ H Q I hq => h.run pins s σ H Q I (w σ H Q hq)⟩
theorem PA.wk {es : List Expr} {t t' : TA} (h : PA X es t) (w : ∀ σ H Q, t' σ H Q → t σ H Q) : PA X es t' := ⟨fun pos pins s σ H Q I hq => h.run pos pins s σ H Q I (w σ H Q hq)⟩
end
end Mp

set_option Elab.async false
set_option linter.all false
set_option autoImplicit false
set_option maxRecDepth 100000
set_option maxHeartbeats 4000000
namespace Mp.SZ
open PySem PySem.Spec PyProof.Rows L2
/-! zip(a, b, strict=True) of two tuples of one length -/
abbrev IsZS (g : Heap) (z TI TO : Addr) (f0 : Value) : Prop := g.get? z = some { cls := .type "zip", dict := none, data := .fields #[f0, .bool false, .bool true, .ref TI, .ref TO], slots := #[] }
section
variable {prog : Program} {w : World} {A : Around} {E : Value → Shared → Prop} {s : Shared}
theorem noe_item {it l : Addr} {i : Nat} {xs : Array Value} {x : Value} {Q : Option Value → Shared → Prop} (hi : s.heap.IsTupleIter it l i) (hl : s.heap.IsTuple l xs) (hx : xs[i]? = some x) (hQ : ∀ g, g.IsTupleIter it l (i + 1) → Heap.SameBut it s.heap g → Q (some x) { s with heap := g }) :
    wpAny (model prog w) A (Builtin.SmallTypes.nextOrEnd (.ref it)) Q E s := by
  unfold Builtin.SmallTypes.nextOrEnd
  exact wpAny_bind (wpAny_attempt (RZ.nextOf_tuple_item hi hl hx fun g a b => wpAny_pure (hQ g a b)))
theorem noe_end {it l : Addr} {i : Nat} {xs : Array Value} {Q : Option Value → Shared → Prop} (hh : A.handled = none) (hi : s.heap.IsTupleIter it l i) (hl : s.heap.IsTuple l xs) (hx : xs[i]? = none) (hQ : ∀ g, Heap.ExtBut it s.heap g → Q none { s with heap := g }) :
    wpAny (model prog w) A (Builtin.SmallTypes.nextOrEnd (.ref it)) Q E s := by
  unfold Builtin.SmallTypes.nextOrEnd
  refine wpAny_bind (wpAny_attempt (RZ.nextOf_tuple_end hh hi hl hx fun g e hk he => ?_))
  obtain ⟨o, ho, hc⟩ := he
  refine wpAny_bind (wpAny_isInstance (T := "StopIteration") (b := true) ⟨o, ho, hc⟩ isSubtype_stop ?_)
  exact wpAny_pure (hQ g hk)
theorem zs_item {z TI TO i1 i2 l1 l2 : Addr} {k1 k2 : Nat} {xs ys : Array Value} {x y a b : Value} {Q : Value → Shared → Prop} (D : ZipApart z TI TO i1 i2 l1 l2) (hz : IsZS s.heap z TI TO .none) (hTI : IsPair s.heap TI (.ref i1) (.ref i2)) (hTO : IsPair s.heap TO a b)
    (h1 : s.heap.IsTupleIter i1 l1 k1) (h2 : s.heap.IsTupleIter i2 l2 k2) (hl1 : s.heap.IsTuple l1 xs) (hl2 : s.heap.IsTuple l2 ys) (hx : xs[k1]? = some x) (hy : ys[k2]? = some y) (hQ : ∀ g, IsZS g z TI TO (rawInt s.heap.objs.size) → IsPair g TO x y → g.IsTupleIter i1 l1 (k1 + 1) → g.IsTupleIter i2 l2 (k2 + 1) → IsPair g s.heap.objs.size x y → g.objs.size = s.heap.objs.size + 1 →
      (∀ c o, c ≠ z → c ≠ TO → c ≠ i1 → c ≠ i2 → s.heap.get? c = some o → g.get? c = some o) → Q (.ref s.heap.objs.size) { s with heap := g }) : wpAny (model prog w) A (Builtin.«zip.__next__» ⟨[.ref z], []⟩) (fun fin s' => ∃ v, fin = .done (.ret v) ∧ Q v s') E s := by
  show wpAny _ _ (field (.ref z) 2 >>= _) _ _ _
  refine wpAny_bind (wpAny_field hz rfl (x := .bool true) rfl ?_)
  show wpAny _ _ (field (.ref z) 3 >>= _) _ _ _
  refine wpAny_bind (wpAny_field hz rfl (x := .ref TI) rfl (wpAny_bind (wpAny_seqItems hTI rfl ?_)))
  show wpAny _ _ (Builtin.SmallTypes.ownedTupleIsFree (.ref z) >>= _) _ _ _
  refine wpAny_bind ?_
  unfold Builtin.SmallTypes.ownedTupleIsFree
  refine wpAny_bind (wpAny_field hz rfl (x := .none) rfl (wpAny_pure ?_))
  simp only [if_true]
  refine wpAny_bind (wpAny_rule (wpAny_bind (wpAny_field hz rfl (x := .ref TO) rfl ?_)))
  refine wpAny_bind (wpAny_setField_rec hz (by simp) fun g1 hz1 hs1 => ?_)
  replace hz1 : IsZS g1 z TI TO .ellipsis := hz1
  refine wpAny_bind ?_
  simp only [List.zipIdx_cons, List.zipIdx_nil, List.forIn_cons, List.forIn_nil]
  refine wpAny_bind (wpAny_bind (wpAny_onRaise ?_))
  show wpAny _ _ (Builtin.SmallTypes.nextOrEnd (.ref i1)) _ _ _
  refine noe_item (h1.extBut hs1.extBut D.i1z) (hl1.extBut hs1.extBut D.l1z) hx fun g2 h12 hs2 => ?_
  have hTO2 : IsPair g2 TO a b := hs2.extBut _ _ D.TOi1 (hs1.extBut _ _ D.TOz hTO)
  refine wpAny_bind (wpAny_seqItems hTO2 rfl (wpAny_bind (wpAny_updateSeq_pair hTO2 fun g3 hTO3 hs3 => ?_)))
  replace hTO3 : IsPair g3 TO x b := hTO3
  refine wpAny_bind (wpAny_letGo (wpAny_pure (wpAny_bind (wpAny_bind (wpAny_onRaise ?_)))))
  show wpAny _ _ (Builtin.SmallTypes.nextOrEnd (.ref i2)) _ _ _
  refine noe_item (((h2.extBut hs1.extBut D.i2z).extBut hs2.extBut D.i12.symm).extBut hs3.extBut D.TOi2.symm) (((hl2.extBut hs1.extBut D.l2z).extBut hs2.extBut D.l2i1).extBut hs3.extBut D.l2TO) hy fun g4 h24 hs4 => ?_
  have hTO4 : IsPair g4 TO x b := hs4.extBut _ _ D.TOi2 hTO3
  refine wpAny_bind (wpAny_seqItems hTO4 rfl (wpAny_bind (wpAny_updateSeq_pair hTO4 fun g5 hTO5 hs5 => ?_)))
  replace hTO5 : IsPair g5 TO x y := hTO5
  refine wpAny_bind (wpAny_letGo (wpAny_pure (wpAny_pure (wpAny_bind (wpAny_seqItems hTO5 rfl (wpAny_bind (wpAny_newTuple ?_)))))))
  have hsz : g5.objs.size = s.heap.objs.size := by rw [hs5.1, hs4.1, hs3.1, hs2.1, hs1.1]
  have hz5 : IsZS g5 z TI TO .ellipsis := hs5.extBut _ _ D.TOz.symm (hs4.extBut _ _ D.i2z.symm (hs3.extBut _ _ D.TOz.symm (hs2.extBut _ _ D.i1z.symm hz1)))
  have hk5 : ∀ c o, c ≠ z → c ≠ TO → c ≠ i1 → c ≠ i2 → s.heap.get? c = some o → g5.get? c = some o := fun c o c1 c2 c3 c4 e => hs5.extBut _ _ c2 (hs4.extBut _ _ c4 (hs3.extBut _ _ c2 (hs2.extBut _ _ c3 (hs1.extBut _ _ c1 e))))
  have h15 : g5.IsTupleIter i1 l1 (k1 + 1) := ((h12.extBut hs3.extBut D.TOi1.symm).extBut hs4.extBut D.i12).extBut hs5.extBut D.TOi1.symm
  have h25 : g5.IsTupleIter i2 l2 (k2 + 1) := h24.extBut hs5.extBut D.TOi2.symm
  have hzlt : z < g5.objs.size := Heap.lt_size hz5
  show wpAny _ _ (Builtin.SmallTypes.ownedTupleHandOut (.ref z) (.ref g5.objs.size) >>= _) _ _ _
  refine wpAny_bind ?_
  unfold Builtin.SmallTypes.ownedTupleHandOut
  have hz6 : IsZS (g5.push { cls := .type "tuple", data := .seq #[x, y] }) z TI TO .ellipsis := Heap.get?_push_of_some _ hz5
  refine wpAny_bind (wpAny_setField_rec hz6 (by simp) fun g7 hz7 hs7 => ?_)
  replace hz7 : IsZS g7 z TI TO (rawInt g5.objs.size) := hz7
  refine wpAny_setField_rec hz7 (by simp) fun g8 hz8 hs8 => ?_
  replace hz8 : IsZS g8 z TI TO (rawInt g5.objs.size) := hz8
  have up : ∀ c o, c ≠ z → g5.get? c = some o → g8.get? c = some o := fun c o c1 e => hs8.extBut _ _ c1 (hs7.extBut _ _ c1 (Heap.get?_push_of_some _ e))
  have hT8 : IsPair g8 g5.objs.size x y := hs8.extBut _ _ (Nat.ne_of_gt hzlt) (hs7.extBut _ _ (Nat.ne_of_gt hzlt) (Heap.get?_push_size _ rfl))
  have hs8' : g8.objs.size = g5.objs.size + 1 := by rw [hs8.1, hs7.1, Heap.size_push]
  rw [hsz] at hz8 hT8 hs8'
  refine wpAny_pure ⟨_, rfl, ?_⟩
  show Q (.ref g5.objs.size) _
  rw [hsz]
  exact hQ g8 hz8 (up _ _ D.TOz hTO5) (h15.at fun o e => up _ o D.i1z e) (h25.at fun o e => up _ o D.i2z e) hT8 hs8' fun c o c1 c2 c3 c4 e => up c o c1 (hk5 c o c1 c2 c3 c4 e)
theorem zs_end {z TI TO i1 i2 l1 l2 : Addr} {k1 k2 : Nat} {xs ys : Array Value} {a b : Value} {Q : Fin → Shared → Prop} (hh : A.handled = none) (D : ZipApart z TI TO i1 i2 l1 l2) (hz : IsZS s.heap z TI TO .none) (hTI : IsPair s.heap TI (.ref i1) (.ref i2)) (hTO : IsPair s.heap TO a b)
    (h1 : s.heap.IsTupleIter i1 l1 k1) (h2 : s.heap.IsTupleIter i2 l2 k2) (hl1 : s.heap.IsTuple l1 xs) (hl2 : s.heap.IsTuple l2 ys) (hx : xs[k1]? = none) (hy : ys[k2]? = none)
    (hE : ∀ g e, (∀ c o, c ≠ z → c ≠ TO → c ≠ i1 → c ≠ i2 → s.heap.get? c = some o → g.get? c = some o) → (∃ o, g.get? e = some o ∧ o.cls = .type "StopIteration") → E (.ref e) { s with heap := g }) : wpAny (model prog w) A (Builtin.«zip.__next__» ⟨[.ref z], []⟩) Q E s := by
  show wpAny _ _ (field (.ref z) 2 >>= _) _ _ _
  refine wpAny_bind (wpAny_field hz rfl (x := .bool true) rfl ?_)
  show wpAny _ _ (field (.ref z) 3 >>= _) _ _ _
  refine wpAny_bind (wpAny_field hz rfl (x := .ref TI) rfl (wpAny_bind (wpAny_seqItems hTI rfl ?_)))
  show wpAny _ _ (Builtin.SmallTypes.ownedTupleIsFree (.ref z) >>= _) _ _ _
  refine wpAny_bind ?_
  unfold Builtin.SmallTypes.ownedTupleIsFree
  refine wpAny_bind (wpAny_field hz rfl (x := .none) rfl (wpAny_pure ?_))
  simp only [if_true]
  refine wpAny_bind (wpAny_rule (wpAny_bind (wpAny_field hz rfl (x := .ref TO) rfl ?_)))
  refine wpAny_bind (wpAny_setField_rec hz (by simp) fun g1 hz1 hs1 => ?_)
  replace hz1 : IsZS g1 z TI TO .ellipsis := hz1
  refine wpAny_bind ?_
  simp only [List.zipIdx_cons, List.zipIdx_nil, List.forIn_cons, List.forIn_nil]
  refine wpAny_bind (wpAny_bind (wpAny_onRaise ?_))
  show wpAny _ _ (Builtin.SmallTypes.nextOrEnd (.ref i1)) _ _ _
  refine noe_end hh (h1.extBut hs1.extBut D.i1z) (hl1.extBut hs1.extBut D.l1z) hx fun g2 hs2 => ?_
  have hz2 : IsZS g2 z TI TO .ellipsis := hs2 _ _ D.i1z.symm hz1
  refine wpAny_bind (wpAny_setField_rec hz2 (by simp) fun g3 hz3 hs3 => ?_)
  refine wpAny_bind ?_
  show wpAny _ _ (((Builtin.SmallTypes.nextOrEnd (.ref i2) >>= _) >>= _) >>= _) _ _ _
  have h23 := ((h2.extBut hs1.extBut D.i2z).extBut hs2 D.i12.symm).extBut hs3.extBut D.i2z
  have hl23 := ((hl2.extBut hs1.extBut D.l2z).extBut hs2 D.l2i1).extBut hs3.extBut D.l2z
  refine wpAny_bind (wpAny_bind (wpAny_bind (noe_end hh h23 hl23 hy fun g4 hs4 => ?_)))
  refine wpAny_pure (wpAny_pure ?_)
  refine wpAny_bind (wpAny_rule ?_)
  show wpAny _ _ (newExc (.type "StopIteration") [] >>= _) _ _ _
  refine wpAny_bind ?_
  simp only [newExc, newTuple]
  refine wpAny_bind (wpAny_newObj_type ?_ (by size_fits))
  refine wpAny_bind (m := firstArgMember _ _) (wpAny_of_eq (a := Value.none) (by first | rfl | (simp only [firstArgMember]; rfl)) (wpAny_newObj_type ?_ (by size_fits)))
  simp only [raiseNew]
  refine wpAny_bind (wpAny_handled ?_)
  first | rw [show A.in1.handled = none from hh] | rw [hh]
  refine wpAny_bind (wpAny_pure (wpAny_throw ?_))
  refine hE _ _ (fun c o c1 c2 c3 c4 x => ?_) ⟨_, Heap.get?_push_size _ rfl, rfl⟩
  exact Heap.get?_push_of_some _ (Heap.get?_push_of_some _ (hs4 _ _ c4 (hs3.extBut _ _ c1 (hs2 _ _ c3 (hs1.extBut _ _ c1 x)))))
theorem pn_item {z TI TO i1 i2 l1 l2 : Addr} {k1 k2 : Nat} {xs ys : Array Value} {x y a b : Value} {Q : Option Value → Shared → Prop} (D : ZipApart z TI TO i1 i2 l1 l2) (hz : IsZS s.heap z TI TO .none) (hTI : IsPair s.heap TI (.ref i1) (.ref i2)) (hTO : IsPair s.heap TO a b)
    (h1 : s.heap.IsTupleIter i1 l1 k1) (h2 : s.heap.IsTupleIter i2 l2 k2) (hl1 : s.heap.IsTuple l1 xs) (hl2 : s.heap.IsTuple l2 ys) (hx : xs[k1]? = some x) (hy : ys[k2]? = some y) (hQ : ∀ g, IsZS g z TI TO (rawInt s.heap.objs.size) → IsPair g TO x y → g.IsTupleIter i1 l1 (k1 + 1) → g.IsTupleIter i2 l2 (k2 + 1) → IsPair g s.heap.objs.size x y → g.objs.size = s.heap.objs.size + 1 →
      (∀ c o, c ≠ z → c ≠ TO → c ≠ i1 → c ≠ i2 → s.heap.get? c = some o → g.get? c = some o) → Q (some (.ref s.heap.objs.size)) { s with heap := g }) : wpAny (model prog w) A (pyNext (.ref z)) Q E s := by
  have hT : s.TypeIs (.ref z) "zip" := ⟨_, hz, rfl⟩
  unfold pyNext
  exact wpAny_bind (wpAny_attempt (wpAny_callSpecial?_slot (name := Str.ofString "__next__") hT F.slot_zip_next (wpAny_call_entry F.slot_zip_next hT F.entry_zip_next (zs_item D hz hTI hTO h1 h2 hl1 hl2 hx hy fun g a1 a2 a3 a4 a5 a6 a7 => wpAny_pure (hQ g a1 a2 a3 a4 a5 a6 a7)) (F.args_zip_next_1 _))))
theorem pn_end {z TI TO i1 i2 l1 l2 : Addr} {k1 k2 : Nat} {xs ys : Array Value} {a b : Value} {Q : Option Value → Shared → Prop} (hh : A.handled = none) (D : ZipApart z TI TO i1 i2 l1 l2) (hz : IsZS s.heap z TI TO .none) (hTI : IsPair s.heap TI (.ref i1) (.ref i2)) (hTO : IsPair s.heap TO a b)
    (h1 : s.heap.IsTupleIter i1 l1 k1) (h2 : s.heap.IsTupleIter i2 l2 k2) (hl1 : s.heap.IsTuple l1 xs) (hl2 : s.heap.IsTuple l2 ys) (hx : xs[k1]? = none) (hy : ys[k2]? = none)
    (hQ : ∀ g, (∀ c o, c ≠ z → c ≠ TO → c ≠ i1 → c ≠ i2 → s.heap.get? c = some o → g.get? c = some o) → Q none { s with heap := g }) : wpAny (model prog w) A (pyNext (.ref z)) Q E s := by
  have hT : s.TypeIs (.ref z) "zip" := ⟨_, hz, rfl⟩
  unfold pyNext
  refine wpAny_bind (wpAny_attempt (wpAny_callSpecial?_slot (name := Str.ofString "__next__") hT F.slot_zip_next (wpAny_call_entry F.slot_zip_next hT F.entry_zip_next (zs_end hh D hz hTI hTO h1 h2 hl1 hl2 hx hy fun g e hk he => ?_) (F.args_zip_next_1 _))))
  obtain ⟨o, ho, hc⟩ := he
  refine wpAny_bind (wpAny_isInstance (T := "StopIteration") (b := true) ⟨o, ho, hc⟩ isSubtype_stop (wpAny_pure (hQ _ hk)))
theorem own_go {elts : List Expr} {x1 : Nat} {pos : Pos} {z TI TO T : Addr} {Q : Unit → Shared → Prop} (hz : IsZS s.heap z TI TO (rawInt T)) (hQ : ∀ g, IsZS g z TI TO .none → Heap.SameBut z s.heap g → Q () { s with heap := g }) : wpAny (model prog w) A (letOwnedTupleGo (.Tuple elts x1 pos) (.ref z) (.ref T)) Q E s := by
  unfold letOwnedTupleGo
  refine wpAny_bind (wpAny_load hz ?_)
  show wpAny _ _ (if (["enumerate", "zip", "dict_itemiterator", "dict_reverseitemiterator", "odict_iterator", "itertools.zip_longest", "itertools.pairwise"].contains "zip" && (#[rawInt T, .bool false, .bool true, .ref TI, .ref TO] : Array Value)[0]? == some (rawInt T)) = true then _ else _) Q E s
  rw [if_pos (by simp)]
  refine wpAny_bind (wpAny_rule ?_)
  show wpAny _ _ (setField (.ref z) 0 .none) Q E s
  exact wpAny_setField_rec hz (by simp) fun g hz' hs' => hQ g hz' hs'
theorem iter_zs {z TI TO : Addr} {f0 : Value} {Q : Value → Shared → Prop} (hz : IsZS s.heap z TI TO f0) (h : Q (.ref z) s) : wpAny (model prog w) A (pyIter (.ref z)) Q E s := by
  have hT : s.TypeIs (.ref z) "zip" := ⟨_, hz, rfl⟩
  refine wpAny_pyIter_slot hT F.slot_zip_iter (wpAny_call_entry F.slot_zip_iter hT F.entry_zip_iter ?_ (F.args_zip_iter_1 _))
  show wpAny _ _ (ret (.ref z)) _ _ s
  exact wpAny_pure ⟨_, rfl, "zip", _, hT, F.slot_zip_next.lookup, h⟩
end
/-- two tuples of one length, the items in new pairs -/
def ItzS (K : PySem.W.Frag) (a b : Addr) : It :=
  ⟨fun i H => ∃ (xs ys : List V) (x y : V), SqT K H a xs ∧ SqT K H b ys ∧ xs[i]? = some x ∧ ys[i]? = some y,
    fun i H v H' => ∃ T x y, v = .ref T ∧ H T = none ∧ H' = upd H T (.tup [x, y]) ∧ (∀ xs, SqT K H a xs → xs[i]? = some x) ∧ ∀ ys, SqT K H b ys → ys[i]? = some y,
    fun i H => ∃ xs ys : List V, SqT K H a xs ∧ SqT K H b ys ∧ xs.length ≤ i ∧ ys.length ≤ i⟩
theorem turn_zs {P : Program} {w : World} {K : PySem.W.Frag} {elts : List Expr} {kk : Nat} {tpos : Pos} {a b z TI TO i1 i2 : Addr} (D : ZipApart z TI TO i1 i2 a b) :
    Turn P w K (.Tuple elts kk tpos) (ItzS K a b) [z, TI, TO, i1, i2] z (fun i g => IsZS g z TI TO .none ∧ IsPair g TI (.ref i1) (.ref i2) ∧ (∃ x y, IsPair g TO x y) ∧ g.IsTupleIter i1 a i ∧ g.IsTupleIter i2 b i) where
  mem := by simp
  obj := fun i g st c hc => by
    obtain ⟨hz, hTI, ⟨x, y, hTO⟩, ⟨o1, e1, _, d1⟩, ⟨o2, e2, _, d2⟩⟩ := st
    have e' : c = z ∨ c = TI ∨ c = TO ∨ c = i1 ∨ c = i2 := by simpa using hc
    rcases e' with q | q | q | q | q
    · rw [q]; exact ⟨_, hz, fun v q => nomatch q⟩
    · rw [q]; exact ⟨_, hTI, fun v q => nomatch q⟩
    · rw [q]; exact ⟨_, hTO, fun v q => nomatch q⟩
    · rw [q]; exact ⟨o1, e1, fun v q => by rw [d1] at q; cases q⟩
    · rw [q]; exact ⟨o2, e2, fun v q => by rw [d2] at q; cases q⟩
  keep := fun i g g' st k => by
    obtain ⟨hz, hTI, ⟨x, y, hTO⟩, h1, h2⟩ := st
    exact ⟨k z (by simp) _ hz, k TI (by simp) _ hTI, ⟨x, y, k TO (by simp) _ hTO⟩, h1.at fun o q => k i1 (by simp) o q, h2.at fun o q => k i2 (by simp) o q⟩
  item := by
    intro X hP hw hK hc i pins s σ H E I hf st hg
    subst hP hw hK
    obtain ⟨hz, hTI, ⟨x0, y0, hTO⟩, h1, h2⟩ := st
    obtain ⟨xs, ys, x, y, hqx, hqy, hx, hy⟩ := hg
    obtain ⟨its, rv, p, _⟩ := I.tuple hqx
    obtain ⟨its2, rv2, p2, _⟩ := I.tuple hqy
    obtain ⟨u, hu, ru⟩ := rv.get hx
    obtain ⟨u2, hu2, ru2⟩ := rv2.get hy
    have hzl : z < s.heap.objs.size := Heap.lt_size hz
    refine pn_item D hz hTI hTO h1 h2 p p2 (x := u) (y := u2) (by simpa using hu) (by simpa using hu2) fun g z' TO' h1' h2' hT hsz hk => ?_
    refine ⟨_, rfl, own_go (s := { s with heap := g }) z' fun g2 z'' sb => ?_⟩
    have hT2 : g2.get? s.heap.objs.size = some { cls := .type "tuple", data := .seq #[u, u2] } := (sb.2 _ (Nat.ne_of_gt hzl)).trans hT
    have new : ObjOk X.prog X.w (upd H s.heap.objs.size (.tup [x, y])) g2 s.heap.objs.size (.tup [x, y]) := ⟨by show 2 ≤ sizeLine; decide, [u, u2], .cons ru (.cons ru2 .nil), ⟨_, hT2, rfl, _, rfl⟩⟩
    have I1 : Inv X pins σ (upd H s.heap.objs.size (.tup [x, y])) { s with heap := g2 } := I.turnedNew (t' := s.toks) (ch := [z, TI, TO, i1, i2]) (fun c o hb q => (sb.2 c (fun q' => hb (by simp [q']))).trans (hk c o (fun q' => hb (by simp [q'])) (fun q' => hb (by simp [q'])) (fun q' => hb (by simp [q'])) (fun q' => hb (by simp [q'])) q)) hf (Nat.le_refl _) new
    refine ⟨.ref s.heap.objs.size, _, I1, rfl, ⟨_, x, y, rfl, I.hok.fresh (Nat.le_refl _), rfl, fun l hl => by rw [I.tuple_inj hl hqx]; exact hx, fun l hl => by rw [I.tuple_inj hl hqy]; exact hy⟩, ⟨z'', ?_, ⟨u, u2, ?_⟩, ?_, ?_⟩, fun c hcm => ?_⟩
    · exact (sb.2 _ D.TIz).trans (hk _ _ D.TIz D.TITO D.TIi1 D.TIi2 hTI)
    · exact (sb.2 _ D.TOz).trans TO'
    · exact h1'.at fun o q => (sb.2 _ D.i1z).trans q
    · exact h2'.at fun o q => (sb.2 _ D.i2z).trans q
    · have hlt : c < s.heap.objs.size := by
        have e' : c = z ∨ c = TI ∨ c = TO ∨ c = i1 ∨ c = i2 := by simpa using hcm
        rcases e' with q | q | q | q | q
        · rw [q]; exact hzl
        · rw [q]; exact Heap.lt_size hTI
        · rw [q]; exact Heap.lt_size hTO
        · rw [q]; obtain ⟨_, e1, _⟩ := h1; exact Heap.lt_size e1
        · rw [q]; obtain ⟨_, e2, _⟩ := h2; exact Heap.lt_size e2
      rw [upd_ne (Nat.ne_of_lt hlt)]
      exact (hf c hcm).1
  done := by
    intro X hP hw hK hc i pins s σ H E I hf st hg
    subst hP hw hK
    obtain ⟨hz, hTI, ⟨x0, y0, hTO⟩, h1, h2⟩ := st
    obtain ⟨xs, ys, hqx, hqy, e1, e2⟩ := hg
    obtain ⟨its, rv, p, _⟩ := I.tuple hqx
    obtain ⟨its2, rv2, p2, _⟩ := I.tuple hqy
    have l1 := rv.length
    have l2 := rv2.length
    exact pn_end (I.ok.hd hc) D hz hTI hTO h1 h2 p p2 (by simp; omega) (by simp; omega) fun g hk => ⟨rfl, I.turnedL (t' := s.toks) (ch := [z, TI, TO, i1, i2]) (fun c o hb q => hk c o (fun q' => hb (by simp [q'])) (fun q' => hb (by simp [q'])) (fun q' => hb (by simp [q'])) (fun q' => hb (by simp [q'])) q) hf⟩
  self := fun A i s Q E st h => iter_zs st.1 h
/-! the call -/
theorem tcall (a b : Value) : checkTypeCall "zip" ⟨[a, b], [(Str.ofString "strict", .bool true)]⟩ = pure () := by kernel_rfl
theorem ncall (a b : Value) : checkBuiltinCall "zip.__new__" ⟨[.type "zip", a, b], [(Str.ofString "strict", .bool true)]⟩ = pure () := by kernel_rfl
theorem icall (obj a b : Value) : argsOk "object.__init__" ⟨[obj, a, b], [(Str.ofString "strict", .bool true)]⟩ := by unfold argsOk; kernel_rfl
abbrev zh5 (g : Heap) (l1 l2 : Addr) : Heap := (RZ.zipTH4 g l1 l2).push { cls := .type "zip", data := .fields #[.none, .bool false, .bool true, .ref (RZ.zipTH2 g l1 l2).objs.size, .ref (RZ.zipTH3 g l1 l2).objs.size] }
theorem mnew (l1 l2 : Addr) (xs ys : Array Value) : Meets (Builtin.«zip.__new__» ⟨[.type "zip", .ref l1, .ref l2], [(Str.ofString "strict", .bool true)]⟩) (fun _ R s => s.heap.IsTuple l1 xs ∧ s.heap.IsTuple l2 ys ∧ R (.ok (.ret (.ref (RZ.zipTH4 s.heap l1 l2).objs.size))) { s with heap := zh5 s.heap l1 l2 }) :=
  .of_wp fun prog w A R s h => by
    obtain ⟨hp, g, d, tk, os⟩ := s; obtain ⟨hl1, hl2, h⟩ := h
    have hsub := sub_zip
    have hL1 : Heap.IsTuple (Shared.heap ⟨hp, g, d, tk, os⟩) l1 xs := hl1
    have hL2 : Heap.IsTuple (Shared.heap ⟨hp.push { cls := .type "tuple_iterator", data := .fields #[.ref l1, .int 0 0] }, g, d, tk, os⟩) l2 ys := Heap.IsTuple.push hl2 _
    have e1 : (Str.ofString "strict" != ("strict" : Str)) = false := by decide +kernel
    wp_walk using wpAny_pyIter_tuple hL1, wpAny_pyIter_tuple hL2
    exact ⟨_, rfl, h⟩
section
variable {prog : Program} {w : World} {A : Around} {E : Value → Shared → Prop} {s : Shared}
theorem call_zs {l1 l2 : Addr} {xs ys : Array Value} {Q : Value → Shared → Prop} (hl1 : s.heap.IsTuple l1 xs) (hl2 : s.heap.IsTuple l2 ys)
    (h : ∀ g, IsZS g (s.heap.objs.size + 4) (s.heap.objs.size + 2) (s.heap.objs.size + 3) .none → IsPair g (s.heap.objs.size + 2) (.ref s.heap.objs.size) (.ref (s.heap.objs.size + 1)) → IsPair g (s.heap.objs.size + 3) .none .none → g.IsTupleIter s.heap.objs.size l1 0 → g.IsTupleIter (s.heap.objs.size + 1) l2 0 → g.objs.size = s.heap.objs.size + 5 →
      (∀ c o, s.heap.get? c = some o → g.get? c = some o) → Q (.ref (s.heap.objs.size + 4)) { s with heap := g }) : wpAny (model prog w) A (call (.type "zip") [.ref l1, .ref l2] [(Str.ofString "strict", .bool true)]) Q E s := by
  refine callType_newKw F.called_zip (by decide) (tcall _ _) (ncall _ _) (fun obj => icall obj _ _) F.entry_zip_new (mnew l1 l2 xs ys) ⟨hl1, hl2, ?_⟩
  have z1 : (RZ.zipTH1 s.heap l1).objs.size = s.heap.objs.size + 1 := Heap.size_push ..
  have z2 : (RZ.zipTH2 s.heap l1 l2).objs.size = s.heap.objs.size + 2 := by rw [Heap.size_push, z1]
  have z3 : (RZ.zipTH3 s.heap l1 l2).objs.size = s.heap.objs.size + 3 := by rw [Heap.size_push, z2]
  have z4 : (RZ.zipTH4 s.heap l1 l2).objs.size = s.heap.objs.size + 4 := by rw [Heap.size_push, z3]
  have z5 : (zh5 s.heap l1 l2).objs.size = s.heap.objs.size + 5 := by rw [Heap.size_push, z4]
  have g5 : (zh5 s.heap l1 l2).get? (RZ.zipTH4 s.heap l1 l2).objs.size = some _ := Heap.get?_push_size _ rfl
  have g4 : (zh5 s.heap l1 l2).get? (RZ.zipTH3 s.heap l1 l2).objs.size = some _ := Heap.get?_push_of_some _ (Heap.get?_push_size _ rfl)
  have g3 : (zh5 s.heap l1 l2).get? (RZ.zipTH2 s.heap l1 l2).objs.size = some _ := Heap.get?_push_of_some _ (Heap.get?_push_of_some _ (Heap.get?_push_size _ rfl))
  have g2 : (zh5 s.heap l1 l2).get? (RZ.zipTH1 s.heap l1).objs.size = some _ := Heap.get?_push_of_some _ (Heap.get?_push_of_some _ (Heap.get?_push_of_some _ (Heap.get?_push_size _ rfl)))
  have g1 : (zh5 s.heap l1 l2).get? s.heap.objs.size = some _ := Heap.get?_push_of_some _ (Heap.get?_push_of_some _ (Heap.get?_push_of_some _ (Heap.get?_push_of_some _ (Heap.get?_push_size _ rfl))))
  show _ ∧ _
  rw [z2, z3, z4] at g5
  rw [z1, z2] at g3
  rw [z3] at g4
  rw [z1] at g2
  rw [z4]
  exact ⟨⟨_, g5, rfl⟩, h _ g5 g3 g4 ⟨_, g1, rfl, rfl⟩ ⟨_, g2, rfl, rfl⟩ z5 fun c o x => Heap.get?_push_of_some _ (Heap.get?_push_of_some _ (Heap.get?_push_of_some _ (Heap.get?_push_of_some _ (Heap.get?_push_of_some _ x))))⟩
end
theorem cw_type {M : Model} {A : Around} {E : Value → Shared → Prop} {s : Shared} {pos : Pos} {T : String} {args : List (Bool × Sem Value)} {kws : List (Option Str × Sem Value)} {Q : Value → Shared → Prop} (hp : args.any (·.1) = false) (hk : kws.any (·.1.isNone) = false)
    (h : wpAny M A (evalArgs (.type T) true args kws) (fun a s₁ => wpAny M A (call (.type T) a.pos a.kw) Q E s₁) E s) : wpAny M A (callWith pos (.type T) [] args kws) Q E s := by
  unfold callWith
  refine wpAny_bind (wpAny_holding (wpAny_mono h (fun a s₁ h₁ => wpAny_bind (wpAny_standAt ?_)) fun _ _ x => x))
  simp only [hp, hk, Bool.or_false, List.nil_append]
  exact wpAny_bind (wpAny_pure (wpAny_bind (wpAny_mono h₁ (fun r s₂ hr => wpAny_bind (wpAny_holding (wpAny_point (wpAny_pure hr)))) fun _ _ x => x)))
def iZS (K : PySem.W.Frag) (ta : TA) : TI := fun σ H R => ta σ H fun vs H1 => ∃ a b xs ys, vs = [.ref a, .ref b] ∧ SqT K H1 a xs ∧ SqT K H1 b ys ∧ R (ItzS K a b) H1
theorem pi_zs {X : Cx} {e e2 : Expr} {ta : TA} {p pos tpos kp : Pos} {cj : Nat} {cp : Pos} {elts : List Expr} {kk : Nat} (hg : Gl X "zip") (hm : X.mg "zip" = none) (ha : PA X [e, e2] ta)
    (hs : starEach [e, e2] X.env = (false, eval e X.env) :: starEach [e2] X.env := by rfl) (hpl : (backTo pos (starEach [e, e2] X.env)).any (·.1) = false := by rfl) :
    PI X (.Tuple elts kk tpos) (.Call (.Name "zip" p) [e, e2] [⟨some (Str.ofString "strict"), .Constant (.bool true) cj cp, kp⟩] pos) (iZS X.K ta) := by
  refine ⟨fun pins s σ H R I h => ?_⟩
  refine wpAny_Call_Name_kw (ld_blt I hg hm PyProof.Rows.boot_zip ?_)
  refine cw_type hpl rfl ?_
  rw [hs]
  refine PyProof.Rows.evalArgs_kwB rfl ?_
  rw [hs] at hpl
  have ha' := ha.run pos pins s σ H _ I h
  rw [hs] at ha'
  refine thn ha' fun us s1 ⟨vs, H1, I1, r1, q1⟩ => ?_
  refine PyProof.Rows.kws_cons (wpAny_pure (PyProof.Rows.kws_nil ?_))
  obtain ⟨a, b, xs, ys, ex, hqx, hqy, q⟩ := q1
  subst ex
  cases r1 with
  | cons r rr =>
    cases rr with
    | cons r' rr =>
      cases rr
      cases r
      cases r'
      have fresh5 : ∀ c, c ∈ [s1.heap.objs.size + 4, s1.heap.objs.size + 2, s1.heap.objs.size + 3, s1.heap.objs.size, s1.heap.objs.size + 1] → FpOk X pins H1 c := fun c hcm => by
        have hle : s1.heap.objs.size ≤ c := by
          have e' : c = s1.heap.objs.size + 4 ∨ c = s1.heap.objs.size + 2 ∨ c = s1.heap.objs.size + 3 ∨ c = s1.heap.objs.size ∨ c = s1.heap.objs.size + 1 := by simpa using hcm
          rcases e' with z | z | z | z | z <;> (rw [z]; first | exact Nat.le_add_right _ _ | exact Nat.le_refl _)
        exact I1.fpOk hle (I1.hok.fresh hle)
      obtain ⟨its, rv, p1, _⟩ := I1.tuple hqx
      obtain ⟨its2, rv2, p2, _⟩ := I1.tuple hqy
      obtain ⟨o1, ho1, _⟩ := id p1
      obtain ⟨o2, ho2, _⟩ := id p2
      refine call_zs (show s1.heap.IsTuple a its.toArray from p1) (show s1.heap.IsTuple b its2.toArray from p2) fun g hz hTI hTO h1 h2 hsz hk => iter_zs hz ?_
      have I2 : Inv X pins σ H1 { s1 with heap := g } := I1.kept (t' := s1.toks) hk
      exact ⟨s1.heap.objs.size + 4, [s1.heap.objs.size + 4, s1.heap.objs.size + 2, s1.heap.objs.size + 3, s1.heap.objs.size, s1.heap.objs.size + 1], _, _, H1, rfl, I2, turn_zs (PySem.W.ktu_apart s1.heap.objs.size a b (Heap.lt_size ho1) (Heap.lt_size ho2)), ⟨hz, hTI, ⟨_, _, hTO⟩, h1, h2⟩, fresh5, q⟩
end Mp.SZ

set_option Elab.async false
set_option linter.all false
set_option autoImplicit false
set_option maxRecDepth 100000
set_option maxHeartbeats 4000000
namespace Mp
open PySem PySem.Spec L2

/-! ### reading data -/
/-- the items of a list -/
def asL : Option AO → Option (List D)
  | some (.lst xs) => some xs
  | _ => none
theorem asL_eq {o : Option AO} {xs : List D} (e : asL o = some xs) : o = some (.lst xs) := by
  cases o with
  | none => cases e
  | some z => cases z with
    | lst ys => cases e; rfl
    | _ => cases e
def lsD (h : AH) : D → Option (List D)
  | .lst xs => some xs
  | .ref n => asL h[n]?
  | _ => none
/-- the items of a list or tuple -/
def sqD (h : AH) : D → Option (List D)
  | .tup xs => some xs
  | d => lsD h d
section
variable {K : PySem.W.Frag} {θ : Th} {H : Hp} {h : AH} {d : D} {v : V} {xs : List D}
theorem HRep.lst (hr : HRep K θ H h) {n : Nat} {a : Addr} (e : θ.l[n]? = some a) (q : h[n]? = some (.lst xs)) : ∃ vs, H a = some (.lst vs) ∧ Reps K θ H xs vs := hr.ob n a _ e q
theorem lsD_ok (hr : HRep K θ H h) (r : Rep K θ H d v) (e : lsD h d = some xs) : ∃ a vs, v = .ref a ∧ H a = some (.lst vs) ∧ Reps K θ H xs vs := by
  cases r with
  | lst f r => cases e; exact ⟨_, _, rfl, f.1, r⟩
  | @ref n a q =>
    obtain ⟨vs, h1, h2⟩ := hr.lst q (asL_eq e)
    exact ⟨a, vs, rfl, h1, h2⟩
  | _ => cases e
theorem sqD_ok (hr : HRep K θ H h) (r : Rep K θ H d v) (e : sqD h d = some xs) : ∃ a vs, v = .ref a ∧ (SqL K H a vs ∨ SqT K H a vs) ∧ Reps K θ H xs vs := by
  cases r with
  | tup f r => cases e; exact ⟨_, _, rfl, .inr f.sq, r⟩
  | lst f r => cases e; exact ⟨_, _, rfl, .inl (SqL.of f.1), r⟩
  | ref q =>
    obtain ⟨a, vs, h1, h2, h3⟩ := lsD_ok hr (.ref q) e
    exact ⟨a, vs, h1, .inl (SqL.of h2), h3⟩
  | _ => cases e
end
/-! ### the layer's data -/
def keyPy : Key → PyData
  | .inl i => .int i
  | .inr x => .str x
def allM {α β : Type} (f : α → Option β) : List α → Option (List β)
  | [] => some []
  | x :: xs => (f x).bind fun y => (allM f xs).map (y :: ·)
def toPy (h : AH) : Nat → D → Option PyData
  | 0, _ => none
  | _ + 1, .non => some .none
  | _ + 1, .bl b => some (.bool b)
  | _ + 1, .int i => some (.int i)
  | _ + 1, .str x => some (.str x)
  | n + 1, .tup xs => (allM (toPy h n) xs).map .tuple
  | n + 1, .lst xs => (allM (toPy h n) xs).map .list
  | n + 1, .dic ks xs => (allM (toPy h n) xs).map fun ps => .dict ((ks.map keyPy).zip ps)
  | n + 1, .ref m => (asL h[m]?).bind fun xs => (allM (toPy h n) xs).map .list
  | _ + 1, .scr _ => none
  | _ + 1, .ty _ => none
  | _ + 1, .glo _ => none
  | _ + 1, .exc _ _ _ => none
def noDict : PyData → Bool := fun d => !d.hasDict
section
variable {X : Cx} {pins : List (Addr × Obj)} {σ : L2.St} {H : Hp} {s : Shared} {θ : Th} {h : AH}
theorem allM_cons {α β : Type} {f : α → Option β} {x : α} {xs : List α} {ys : List β} (e : allM f (x :: xs) = some ys) : ∃ y zs, ys = y :: zs ∧ f x = some y ∧ allM f xs = some zs := by
  unfold allM at e
  cases q : f x with
  | none => rw [q] at e; cases e
  | some y =>
    rw [q] at e
    cases r : allM f xs with
    | none => rw [r] at e; cases e
    | some zs =>
      rw [r] at e
      cases e
      exact ⟨y, zs, rfl, rfl, rfl⟩
/-- sys.modules is no thing of ours -/
def SysD (K : PySem.W.Frag) : Prop := ∃ o, K.lookup sysModules = some o ∧ o.cls = .type "dict"
theorem map_some {α β : Type} {o : Option α} {f : α → β} {y : β} (e : o.map f = some y) : ∃ x, o = some x ∧ f x = y := Option.map_eq_some_iff.mp e
theorem reads_all {f : D → Option PyData} (F : ∀ d v u p, Rep X.K θ H d v → RelV v u → f d = some p → ∃ as, Reads s.heap u p as ∧ sysModules ∉ as) :
    ∀ (ds : List D) (vs : List V) (us : List Value) (ps : List PyData), Reps X.K θ H ds vs → Vals vs us → allM f ds = some ps → ∃ as, ReadsAll s.heap us ps as ∧ sysModules ∉ as
  | [], _, _, _, .nil, .nil, e => by
    have e' : some [] = some _ := e
    cases e'
    exact ⟨[], .nil, by simp⟩
  | d :: ds, _, _, ps, .cons r t, .cons q z, e => by
    obtain ⟨y, zs, rfl, e1, e2⟩ := allM_cons e
    obtain ⟨as, h1, n1⟩ := F d _ _ _ r q e1
    obtain ⟨bs, h2, n2⟩ := reads_all F ds _ _ zs t z e2
    exact ⟨as ++ bs, .cons h1 h2, fun m => (List.mem_append.mp m).elim n1 n2⟩
theorem noSys (I : Inv X pins σ H s) (hS : SysD X.K) {a : Addr} {o : Obj} (e : s.heap.get? a = some o) (c : o.cls = .type "list") : a ≠ sysModules := by
  rintro rfl
  obtain ⟨o', k, c'⟩ := hS
  have e' := I.kIn _ _ k
  rw [e] at e'; cases e'
  rw [c] at c'
  injection c' with z
  exact absurd z (by decide)
theorem keys_all {h : Heap} : ∀ {es : List DictEntry} {ks : List Key} {vs : List Value}, Pairs (mixKind X.prog X.w) es (ks.zip vs) → ks.length = vs.length → ReadsAll h (es.map (·.key)) (ks.map keyPy) [] ∧ es.map (·.val) = vs
  | [], [], [], _, _ => ⟨.nil, rfl⟩
  | [], [], _ :: _, _, l => by simp at l
  | [], _ :: _, [], _, l => by simp at l
  | _, k :: ks, [], _, l => by simp at l
  | _, [], v :: vs, _, l => by simp at l
  | e :: es, [], [], p, _ => by cases p
  | [], k :: ks, v :: vs, p, _ => by cases p
  | e :: es, k :: ks, v :: vs, p, l => by
    have p' : Pairs (mixKind X.prog X.w) (e :: es) ((k, v) :: ks.zip vs) := p
    cases p' with
    | cons h1 h2 t =>
      obtain ⟨r, q⟩ := keys_all (es := es) (ks := ks) (vs := vs) t (by simpa using l)
      refine ⟨?_, by simp [h2, q]⟩
      have z : Reads h e.key (keyPy k) [] := by
        rcases keyIs_shape h1 with ⟨i, t, rfl, q⟩ | ⟨x, t, rfl, q⟩
        · rw [q]; exact .int i t
        · rw [q]; exact .str x t
      have zz := ReadsAll.cons z r
      simpa using zz
theorem reads_of (I : Inv X pins σ H s) (hS : SysD X.K) (hr : HRep X.K θ H h) : ∀ (n : Nat) (d : D) (v : V) (u : Value) (p : PyData), Rep X.K θ H d v → RelV v u → toPy h n d = some p → ∃ as, Reads s.heap u p as ∧ sysModules ∉ as
  | 0, _, _, _, _, _, _, e => by cases e
  | n + 1, d, v, u, p, r, q, e => by
    have F := reads_of I hS hr n
    have L : ∀ {a : Addr} {vs : List V} {xs : List D}, SqL X.K H a vs → Reps X.K θ H xs vs → (allM (toPy h n) xs).map PyData.list = some p → ∃ as, Reads s.heap (.ref a) p as ∧ sysModules ∉ as := by
      intro a vs xs hl rs e
      obtain ⟨ps, e1, rfl⟩ := map_some e
      obtain ⟨its, rv, ⟨o, m, ho, hc, _, hd⟩, _⟩ := I.list hl
      obtain ⟨as, h1, n1⟩ := reads_all F xs vs its ps rs rv e1
      refine ⟨_, Reads.list ho hc hd h1, ?_⟩
      intro z
      rcases List.mem_cons.mp z with z | z
      · exact noSys I hS ho hc z.symm
      · exact n1 z
    cases r with
    | non => cases e; cases q; exact ⟨[], .none, by simp⟩
    | bl b => cases e; cases q; exact ⟨[], .bool b, by simp⟩
    | int i => cases e; obtain ⟨t, rfl⟩ := q; exact ⟨[], .int i t, by simp⟩
    | str x => cases e; obtain ⟨t, rfl⟩ := q; exact ⟨[], .str x t, by simp⟩
    | ty _ => cases e
    | glo _ => cases e
    | exc _ _ => cases e
    | scr _ _ => cases e
    | @ref m a hm =>
      cases q
      have e' : ((asL h[m]?).bind fun xs => (allM (toPy h n) xs).map PyData.list) = some p := e
      cases z : asL h[m]? with
      | none => rw [z] at e'; cases e'
      | some xs =>
        rw [z] at e'
        obtain ⟨vs, h1, h2⟩ := hr.lst hm (asL_eq z)
        exact L (SqL.of h1) h2 e'
    | @tup xs vs a f rs =>
      cases q
      obtain ⟨ps, e1, rfl⟩ := map_some (show (allM (toPy h n) xs).map PyData.tuple = some p from e)
      obtain ⟨its, rv, ⟨o, ho, hc, m, hd⟩, _⟩ := I.tuple f.sq
      obtain ⟨as, h1, n1⟩ := reads_all F xs vs its ps rs rv e1
      exact ⟨_, Reads.tuple ho hc hd h1, n1⟩
    | @lst xs vs a f rs =>
      cases q
      exact L (SqL.of f.1) rs e
    | @dic ks xs vs a f l rs =>
      cases q
      obtain ⟨ps, e1, rfl⟩ := map_some (show (allM (toPy h n) xs).map (fun ps => PyData.dict ((ks.map keyPy).zip ps)) = some p from e)
      obtain ⟨_, ns, us, kv, o, es, ep, ho, hx, hd, hk, hp, _⟩ := (show ObjOk X.prog X.w H s.heap a (.dK (ks.zip vs)) from I.hok a _ f.1)
      have ku : ∀ (ks : List Key) (vs : List V) (us : List (Key × Value)), ks.length = vs.length → KV (ks.zip vs) us → us = ks.zip (us.map (·.2)) ∧ Vals vs (us.map (·.2)) := by
        intro ks
        induction ks with
        | nil =>
          intro vs us l k
          cases vs with
          | nil => cases k; exact ⟨rfl, .nil⟩
          | cons _ _ => simp at l
        | cons k ks ih =>
          intro vs us l kk
          cases vs with
          | nil => simp at l
          | cons v vs =>
            have kk' : KV ((k, v) :: ks.zip vs) us := kk
            cases kk' with
            | @cons p q ps qs h t =>
              obtain ⟨i1, i2⟩ := ih vs qs (by simpa using l) t
              obtain ⟨q1, q2⟩ := q
              have h1 : k = q1 := h.1
              refine ⟨?_, .cons h.2 i2⟩
              show (q1, q2) :: qs = (k, q2) :: ks.zip (qs.map (·.2))
              rw [← i1, h1]
      obtain ⟨k1, k2⟩ := ku ks vs us l kv
      have lk : ks.length = (us.map (·.2)).length := by rw [← k2.length]; exact l
      rw [k1] at hp
      obtain ⟨r1, r2⟩ := keys_all (X := X) (h := s.heap) hp lk
      obtain ⟨bs, h2, n2⟩ := reads_all F xs vs (us.map (·.2)) ps rs k2 e1
      have lp : (ks.map keyPy).length = ps.length := by
        have a1 := rs.len
        have a2 : ∀ (xs : List D) (ps : List PyData), allM (toPy h n) xs = some ps → xs.length = ps.length := by
          intro xs
          induction xs with
          | nil => intro ps z; have z' : some [] = some ps := z; cases z'; rfl
          | cons x xs ih => intro ps z; obtain ⟨y, zs, rfl, _, e2⟩ := allM_cons z; simp [ih zs e2]
        have a3 := a2 xs ps e1
        rw [List.length_map]; omega
      have f1 : ((ks.map keyPy).zip ps).map (·.1) = ks.map keyPy := List.map_fst_zip (Nat.le_of_eq lp)
      have f2 : ((ks.map keyPy).zip ps).map (·.2) = ps := List.map_snd_zip (Nat.le_of_eq lp.symm)
      refine ⟨_, Reads.dict ho hx.1 hd (by rw [f1]; exact r1) (by rw [f2, r2]; exact h2), ?_⟩
      intro z
      have z' : sysModules = a ∨ sysModules ∈ bs := by simpa using z
      rcases z' with z | z
      · rw [← z] at ns; simp at ns
      · exact n2 z
end

/-! ### operations by values: f on data gives the layer's rule -/
def r2M (K : PySem.W.Frag) (E : XW) (f : D → D → AH → R D) : R2 := fun x y H Q => ∃ θ h d e, HRep K θ H h ∧ Rep K θ H d x ∧ Rep K θ H e y ∧ After K θ H E (f d e h) Q
def r1M (K : PySem.W.Frag) (E : XW) (f : D → AH → R D) : V → Hp → VK → Prop := fun x H Q => ∃ θ h d, HRep K θ H h ∧ Rep K θ H d x ∧ After K θ H E (f d h) Q
def rLM (K : PySem.W.Frag) (E : XW) (f : List D → AH → R D) : List V → Hp → VK → Prop := fun xs H Q => ∃ θ h ds, HRep K θ H h ∧ Reps K θ H ds xs ∧ After K θ H E (f ds h) Q
def rmM (K : PySem.W.Frag) (E : XW) (f : D → List D → AH → R D) : V → List V → Hp → VK → Prop := fun x xs H Q => ∃ θ h d ds, HRep K θ H h ∧ Rep K θ H d x ∧ Reps K θ H ds xs ∧ After K θ H E (f d ds h) Q
/-- a new list: of ours (mutable), or one that nobody will change -/
def newL (m : Bool) (xs : List D) (h : AH) : R D := match m with
  | true => .ok (.ref h.length) (h ++ [.lst xs])
  | false => .ok (.lst xs) h
section
variable {K : PySem.W.Frag} {θ : Th} {H : Hp} {h : AH} {E : XW} {Q : VK}
theorem newL_ok {m : Bool} {xs : List D} {vs : List V} {p : Addr} (hr : HRep K θ H h) (rs : Reps K θ H xs vs) (a : After K θ H E (newL m xs h) Q) (hp : H p = none) : Q (.ref p) (upd H p (.lst vs)) := by
  cases m with
  | true =>
    refine a (.ref p) (θ.add p) _ (Ext.new hp) (hr.new hp ⟨vs, upd_same, rs.mono (Ext.new hp)⟩) (.ref ?_)
    show (θ.l ++ [p])[h.length]? = some p
    rw [← hr.len]
    simp
  | false => exact a (.ref p) θ _ (Ext.laid hp) (hr.laid hp) (.lst ⟨upd_same, hr.fresh hp⟩ (rs.mono (Ext.laid hp)))
theorem newT_ok {xs : List D} {vs : List V} {p : Addr} (hr : HRep K θ H h) (rs : Reps K θ H xs vs) (a : After K θ H E (.ok (.tup xs) h) Q) (hp : H p = none) : Q (.ref p) (upd H p (.tup vs)) :=
  a (.ref p) θ _ (Ext.laid hp) (hr.laid hp) (.tup (.inl ⟨.inl upd_same, hr.fresh hp⟩) (rs.mono (Ext.laid hp)))
theorem After.val {d : D} {v : V} (a : After K θ H E (.ok d h) Q) (hr : HRep K θ H h) (r : Rep K θ H d v) : Q v H := a v θ H Ext.refl hr r
end
def okb (c : Bool) (r : R D) : R D := match c with
  | true => r
  | false => .bad
theorem After.okb {K : PySem.W.Frag} {θ : Th} {H : Hp} {E : XW} {c : Bool} {r : R D} {Q : VK} (a : After K θ H E (okb c r) Q) : c = true ∧ After K θ H E r Q := by
  cases c with
  | true => exact ⟨rfl, a⟩
  | false => exact False.elim a
def boI (b : Bool) : Int := if b = true then 1 else 0
/-- + : m tells whether a new list is ours -/
def addD (m : Bool) (d e : D) (h : AH) : R D := match d, e with
  | .int i, .int j => .ok (.int (i + j)) h
  | .bl b, .int j => .ok (.int (boI b + j)) h
  | .int i, .bl b => .ok (.int (i + boI b)) h
  | .str x, .str y => okb (decide (x.length + y.length ≤ sizeLine)) (.ok (.str (x ++ y)) h)
  | .tup xs, .tup ys => okb (decide (xs.length + ys.length ≤ sizeLine)) (.ok (.tup (xs ++ ys)) h)
  | d, e => match lsD h d, lsD h e with
    | some xs, some ys => okb (decide (xs.length + ys.length ≤ sizeLine)) (newL m (xs ++ ys) h)
    | _, _ => .bad
section
variable {X : Cx} {E : XW}
theorem addL {m : Bool} {d e : D} {h : AH} {r : R D} (hd : lsD h d ≠ none) (q : addD m d e h = r) : (match lsD h d, lsD h e with
    | some xs, some ys => okb (decide (xs.length + ys.length ≤ sizeLine)) (newL m (xs ++ ys) h)
    | _, _ => .bad) = r := by
  cases d <;> first | exact absurd rfl hd | (cases e <;> exact q)
theorem opS_add {m : Bool} : OpR X (binaryOp .Add) (r2M X.K E (addD m)) := by
  intro pins s σ H x y v u Q I rx ry hh
  obtain ⟨θ, h, d, e, hr, rd, re, a⟩ := hh
  by_cases hd : lsD h d = none
  · cases rd with
    | int i => cases re with
      | int j => exact op_add pins s σ H _ _ v u Q I rx ry ⟨i, j, rfl, rfl, a.val hr (.int _)⟩
      | bl b =>
        obtain ⟨t, rfl⟩ := rx
        cases ry
        exact add_int_bool ⟨.int (i + boI b), H, I.tok _, ⟨_, rfl⟩, a.val hr (.int _)⟩
      | _ => exact False.elim a
    | bl b => cases re with
      | int j =>
        obtain ⟨t, rfl⟩ := ry
        cases rx
        exact PySem.IntBool.add_bool_int ⟨.int (boI b + j), H, I.tok _, ⟨_, rfl⟩, a.val hr (.int _)⟩
      | _ => exact False.elim a
    | str x => cases re with
      | str y =>
        obtain ⟨c, a⟩ := After.okb a
        exact op_add_str pins s σ H _ _ v u Q I rx ry ⟨x, y, rfl, rfl, of_decide_eq_true c, a.val hr (.str _)⟩
      | _ => exact False.elim a
    | @tup xs vs p f rs => cases re with
      | @tup ys us q g rt =>
        obtain ⟨c, a⟩ := After.okb a
        have c1 := of_decide_eq_true c
        have l1 := rs.len
        have l2 := rt.len
        by_cases e0 : vs = []
        · subst e0
          have : xs = [] := by simpa using l1
          subst this
          cases rx
          cases ry
          obtain ⟨its, r1, t1, _⟩ := I.tuple f.sq
          obtain ⟨its2, r2, t2, _⟩ := I.tuple g.sq
          cases r1
          exact L2.cat_tup0 t1 t2 ⟨.ref q, H, I, rfl, a.val hr (.tup g rt)⟩
        have ne : vs ≠ [] := e0
        refine op_catT pins s σ H _ _ v u Q I rx ry ⟨p, q, vs, us, rfl, rfl, f.sq, g.sq, ne, by omega, fun z => ?_, fun z r hn => newT_ok hr (rs.append rt) a hn⟩
        subst z
        have : ys = [] := by simpa using l2
        subst this
        rw [List.append_nil] at a
        exact a.val hr (.tup f rs)
      | _ => exact False.elim a
    | lst f r => cases hd
    | @ref n p q =>
      have hd' : lsD h (.ref n) = none := hd
      have a' : After X.K θ H E (match lsD h (.ref n), lsD h e with
        | some xs, some ys => okb (decide (xs.length + ys.length ≤ sizeLine)) (newL m (xs ++ ys) h)
        | _, _ => .bad) Q := by cases re <;> exact a
      rw [hd'] at a'
      exact False.elim a'
    | _ => cases re <;> exact False.elim a
  · have a' := addL (m := m) (e := e) (r := _) hd rfl
    rw [← a'] at a
    cases q1 : lsD h d with
    | none => exact absurd q1 hd
    | some xs =>
      cases q2 : lsD h e with
      | none => rw [q1, q2] at a; exact False.elim a
      | some ys =>
        rw [q1, q2] at a
        obtain ⟨c, a⟩ := After.okb a
        have c1 := of_decide_eq_true c
        obtain ⟨l, vs, rfl, e1, rs⟩ := lsD_ok hr rd q1
        obtain ⟨b, us, rfl, e2, rt⟩ := lsD_ok hr re q2
        have l1 := rs.len
        have l2 := rt.len
        exact op_cat pins s σ H _ _ v u Q I rx ry ⟨l, b, vs, us, rfl, rfl, e1, e2, by omega, fun p hn => newL_ok hr (rs.append rt) a hn⟩
end
end Mp

set_option Elab.async false
set_option linter.all false
set_option autoImplicit false
set_option maxRecDepth 100000
set_option maxHeartbeats 4000000
namespace Mp
open PySem PySem.Spec L2
/-! ### two ints -/
def iiD (c : Int → Int → Bool) (f : Int → Int → D) (d e : D) (h : AH) : R D := match d, e with
  | .int i, .int j => okb (c i j) (.ok (f i j) h)
  | _, _ => .bad
section
variable {X : Cx} {E : XW}
theorem opS_ii {F : Value → Value → Sem Value} {C : Int → Int → Prop} {g : Int → Int → V} {c : Int → Int → Bool} {f : Int → Int → D} (o : OpR X F (rI C g)) (hc : ∀ i j, c i j = true → C i j) (hf : ∀ i j θ H, Rep X.K θ H (f i j) (g i j)) : OpR X F (r2M X.K E (iiD c f)) := by
  intro pins s σ H x y v u Q I rx ry hh
  obtain ⟨θ, h, d, e, hr, rd, re, a⟩ := hh
  cases rd with
  | int i => cases re with
    | int j =>
      obtain ⟨k, a⟩ := After.okb a
      exact o pins s σ H _ _ v u Q I rx ry ⟨i, j, rfl, rfl, hc i j k, a.val hr (hf i j θ H)⟩
    | _ => exact False.elim a
  | _ => cases re <;> exact False.elim a
theorem OpR.i0 {F : Value → Value → Sem Value} {g : Int → Int → V} (o : OpR X F (rI0 g)) : OpR X F (rI (fun _ _ => True) g) := by
  intro pins s σ H x y v u Q I rx ry hh
  obtain ⟨i, j, h1, h2, _, q⟩ := hh
  exact o pins s σ H x y v u Q I rx ry ⟨i, j, h1, h2, q⟩
end
def subI := iiD (fun _ _ => true) fun i j => .int (i - j)
def subD (d e : D) (h : AH) : R D := match d, e with
  | .bl b, .int j => .ok (.int (boI b - j)) h
  | .int i, .bl b => .ok (.int (i - boI b)) h
  | d, e => subI d e h
def mulI := iiD (fun i j => (decide (-(2 ^ 64) < i) && decide (i < 2 ^ 64)) || (decide (-(2 ^ 64) < j) && decide (j < 2 ^ 64))) fun i j => .int (i * j)
def modD := iiD (fun _ j => decide (0 < j)) fun i j => .int (i % j)
def fdivD := iiD (fun _ j => decide (0 < j) && decide (j.natAbs.log2 < 9000)) fun i j => .int (i / j)
def powD := iiD (fun i j => decide (0 ≤ j) && (decide (j ≤ 1000000) && decide (i.natAbs < 2 ^ 64))) fun i j => .int (i ^ j.toNat)
def cmpI (p : Int → Int → Bool) := iiD (fun _ _ => true) fun i j => .bl (p i j)
section
variable {X : Cx} {E : XW}
theorem opS_subI : OpR X (binaryOp .Sub) (r2M X.K E subI) := opS_ii (OpR.i0 op_sub) (fun _ _ _ => trivial) fun _ _ _ _ => .int _
theorem opS_sub : OpR X (binaryOp .Sub) (r2M X.K E subD) := by
  intro pins s σ H x y v u Q I rx ry hh
  obtain ⟨θ, h, d, e, hr, rd, re, a⟩ := hh
  cases rd with
  | bl b => cases re with
    | int j =>
      obtain ⟨t, rfl⟩ := ry
      cases rx
      exact PySem.IntBool.sub_bool_int ⟨.int (boI b - j), H, I.tok _, ⟨_, rfl⟩, a.val hr (.int _)⟩
    | _ => exact False.elim a
  | int i => cases re with
    | bl b =>
      obtain ⟨t, rfl⟩ := rx
      cases ry
      exact PySem.IntBool.sub_int_bool ⟨.int (i - boI b), H, I.tok _, ⟨_, rfl⟩, a.val hr (.int _)⟩
    | int j => exact opS_subI (E := E) pins s σ H _ _ v u Q I rx ry ⟨θ, h, _, _, hr, .int i, .int j, a⟩
    | _ => exact False.elim a
  | _ => cases re <;> exact False.elim a
theorem opS_mulI : OpR X (binaryOp .Mult) (r2M X.K E mulI) := opS_ii op_mul (fun i j k => by
  rcases Bool.or_eq_true_iff.mp k with k | k
  · have k := Bool.and_eq_true_iff.mp k
    exact .inl ⟨of_decide_eq_true k.1, of_decide_eq_true k.2⟩
  · have k := Bool.and_eq_true_iff.mp k
    exact .inr ⟨of_decide_eq_true k.1, of_decide_eq_true k.2⟩) fun _ _ _ _ => .int _
theorem opS_mod : OpR X (binaryOp .Mod) (r2M X.K E modD) := opS_ii op_mod (fun _ _ k => of_decide_eq_true k) fun _ _ _ _ => .int _
theorem opS_fdiv : OpR X (binaryOp .FloorDiv) (r2M X.K E fdivD) := opS_ii op_fdivW (fun _ _ k => let z := Bool.and_eq_true_iff.mp k; ⟨of_decide_eq_true z.1, of_decide_eq_true z.2⟩) fun _ _ _ _ => .int _
theorem opS_pow : OpR X (binaryOp .Pow) (r2M X.K E powD) := opS_ii op_pow (fun _ _ k => let z := Bool.and_eq_true_iff.mp k; let y := Bool.and_eq_true_iff.mp z.2; ⟨of_decide_eq_true z.1, of_decide_eq_true y.1, of_decide_eq_true y.2⟩) fun _ _ _ _ => .int _
end
/-! ### lists and tuples times an int -/
def mulD (m : Bool) (d e : D) (h : AH) : R D := match d, e with
  | .tup xs, .int k => okb (!xs.isEmpty && (decide (2 ≤ k) && (decide (k ≤ 1000) && decide (xs.length ≤ 1000)))) (.ok (.tup (List.replicate k.toNat xs).flatten) h)
  | .lst xs, .int k => okb (decide (0 ≤ k) && (decide (k ≤ 1000) && decide (xs.length ≤ 1000))) (newL m (List.replicate k.toNat xs).flatten h)
  | d, e => mulI d e h
section
variable {X : Cx} {E : XW} {K : PySem.W.Frag} {θ : Th} {H : Hp}
theorem Reps.rep {xs : List D} {vs : List V} (r : Reps K θ H xs vs) : ∀ n : Nat, Reps K θ H (List.replicate n xs).flatten (List.replicate n vs).flatten
  | 0 => .nil
  | n + 1 => by
    rw [List.replicate_succ, List.replicate_succ, List.flatten_cons, List.flatten_cons]
    exact r.append (Reps.rep r n)
theorem opS_mul {m : Bool} : OpR X (binaryOp .Mult) (r2M X.K E (mulD m)) := by
  intro pins s σ H x y v u Q I rx ry hh
  obtain ⟨θ, h, d, e, hr, rd, re, a⟩ := hh
  cases rd with
  | int i => cases re <;> first
      | exact False.elim a
      | exact opS_mulI (E := E) pins s σ H _ _ v u Q I rx ry ⟨θ, h, _, _, hr, .int _, .int _, a⟩
  | @tup xs vs p f rs => cases re with
    | int k =>
      obtain ⟨c, a⟩ := After.okb a
      have c0 := Bool.and_eq_true_iff.mp c
      have c1 := Bool.and_eq_true_iff.mp c0.2
      have c2 := Bool.and_eq_true_iff.mp c1.2
      have l := rs.len
      refine op_repT pins s σ H _ _ v u Q I rx ry ⟨p, k, vs, rfl, rfl, f.sq, ?_, of_decide_eq_true c1.1, of_decide_eq_true c2.1, by rw [← l]; exact of_decide_eq_true c2.2, fun r hn => newT_ok hr (rs.rep _) a hn⟩
      rintro rfl
      have : xs = [] := by simpa using l
      subst this
      exact absurd c0.1 (by simp)
    | _ => exact False.elim a
  | @lst xs vs p f rs => cases re with
    | int k =>
      obtain ⟨c, a⟩ := After.okb a
      have c1 := Bool.and_eq_true_iff.mp c
      have c2 := Bool.and_eq_true_iff.mp c1.2
      have k0 := of_decide_eq_true c1.1
      have k1 := of_decide_eq_true c2.1
      have k2 := of_decide_eq_true c2.2
      have l := rs.len
      refine op_rep pins s σ H _ _ v u Q I rx ry ⟨p, k, vs, rfl, rfl, f.1, by omega, by omega, ?_, fun r hn => newL_ok hr (rs.rep _) a hn⟩
      have e1 : vs.length * k.toNat ≤ 1000 * 1000 := Nat.mul_le_mul (by omega) (by omega)
      have e2 : (1000 * 1000 : Nat) ≤ sizeLine := by decide
      omega
    | _ => exact False.elim a
  | _ => cases re <;> exact False.elim a
end

/-! ### comparisons -/
def eqD (d e : D) (h : AH) : R D := match d, e with
  | .tup xs, .tup [] => .ok (.bl xs.isEmpty) h
  | .lst xs, .lst [] => .ok (.bl xs.isEmpty) h
  | .str x, .str y => .ok (.bl (decide (x = y))) h
  | .int i, .int j => .ok (.bl (decide (i = j))) h
  | d, e => match toPy h 64 d, toPy h 64 e with
    | some p, some q => okb (SeqAt.shaped p && SeqAt.shaped q) (.ok (.bl (PyData.eqv p q)) h)
    | _, _ => .bad
def neD (d e : D) (h : AH) : R D := match d, e with
  | .tup xs, .tup [] => .ok (.bl (!xs.isEmpty)) h
  | .lst xs, .lst [] => .ok (.bl (!xs.isEmpty)) h
  | .str x, .str y => .ok (.bl (!decide (x = y))) h
  | .int i, .int j => .ok (.bl (!decide (i = j))) h
  | d, e => match toPy h 64 d, toPy h 64 e with
    | some p, some q => okb (SeqAt.shaped p && SeqAt.shaped q) (.ok (.bl (!PyData.eqv p q)) h)
    | _, _ => .bad
def isNon : D → Bool
  | .non => true
  | _ => false
def isD (n : Bool) (d e : D) (h : AH) : R D := match e with
  | .non => .ok (.bl (n.xor (isNon d))) h
  | _ => .bad
def cmpD (p : Int → Int → Bool) (q : List Nat → List Nat → Bool) (d e : D) (h : AH) : R D := match d, e with
  | .int i, .int j => .ok (.bl (p i j)) h
  | .str x, .str y => .ok (.bl (q x.cps.toList y.cps.toList)) h
  | _, _ => .bad
def ltD := cmpD (fun i j => decide (i < j)) fun x y => decide (x < y)
def leD := cmpD (fun i j => decide (i ≤ j)) fun x y => !decide (y < x)
def gtD := cmpD (fun i j => decide (j < i)) fun x y => decide (y < x)
def geD := cmpD (fun i j => decide (j ≤ i)) fun x y => !decide (x < y)
/-- x in s (texts); x in xs (flat things) -/
def flatD : D → Option V
  | .non => some .non
  | .bl b => some (.bl b)
  | .int i => some (.int i)
  | .str x => some (.str x)
  | _ => none
def inD (n : Bool) (d e : D) (h : AH) : R D := match d, e with
  | .str x, .str y => .ok (.bl (match x.cps.toList with
    | [c] => n.xor (decide (c ∈ y.cps.toList))
    | _ => n.xor (!(Builtin.Str.occurrences y x 0 y.length 1).isEmpty))) h
  | d, e => match flatD d, sqD h e with
    | some v, some ys => (match allM flatD ys with
      | some vs => .ok (.bl (n.xor (inV v vs))) h
      | none => .bad)
    | _, _ => .bad
section
variable {X : Cx} {E : XW}
theorem toPy_two {F : Value → Value → Sem Value} {g : Bool → Bool} (hS : SysD X.K) {θ : Th} {h : AH} {d e : D} {pins : List (Addr × Obj)} {s : Shared} {σ : L2.St} {H : Hp} {x y : V} {v u : Value} {Q : VK} (I : Inv X pins σ H s) (rx : RelV x v) (ry : RelV y u) (hr : HRep X.K θ H h) (rd : Rep X.K θ H d x) (re : Rep X.K θ H e y)
    (op : ∀ {p q : PyData} {as bs : List Addr}, Reads s.heap v p as → Reads s.heap u q bs → SeqAt.shaped p = true → SeqAt.shaped q = true → EP X pins σ Q (.bool (g (PyData.eqv p q))) s → wpAny (model X.prog X.w) X.A (F v u) (EP X pins σ Q) X.xe s)
    (a : After X.K θ H E (match toPy h 64 d, toPy h 64 e with
      | some p, some q => okb (SeqAt.shaped p && SeqAt.shaped q) (.ok (.bl (g (PyData.eqv p q))) h)
      | _, _ => .bad) Q) : wpAny (model X.prog X.w) X.A (F v u) (EP X pins σ Q) X.xe s := by
  cases q1 : toPy h 64 d with
  | none => rw [q1] at a; exact False.elim a
  | some p =>
    cases q2 : toPy h 64 e with
    | none => rw [q1, q2] at a; exact False.elim a
    | some q =>
      rw [q1, q2] at a
      obtain ⟨c, a⟩ := After.okb a
      have c := Bool.and_eq_true_iff.mp c
      obtain ⟨as, r1, _⟩ := reads_of I hS hr 64 d x v p rd rx q1
      obtain ⟨bs, r2, _⟩ := reads_of I hS hr 64 e y u q re ry q2
      exact op r1 r2 c.1 c.2 ⟨.bl _, H, I, rfl, a.val hr (.bl _)⟩
theorem opS_eq (hS : SysD X.K) (hu : X.A.units + 64 < cLine) : OpR X (compareOp .Eq) (r2M X.K E eqD) := by
  intro pins s σ H x y v u Q I rx ry hh
  obtain ⟨θ, h, d, e, hr, rd, re, a⟩ := hh
  have gen : After X.K θ H E (match toPy h 64 d, toPy h 64 e with
      | some p, some q => okb (SeqAt.shaped p && SeqAt.shaped q) (.ok (.bl (id (PyData.eqv p q))) h)
      | _, _ => .bad) Q → wpAny (model X.prog X.w) X.A (compareOp .Eq v u) (EP X pins σ Q) X.xe s := fun a =>
    toPy_two (g := id) hS I rx ry hr rd re (fun r1 r2 s1 s2 q => SeqAt.compareEq_shaped r1 r2 s1 s2 hu q) a
  cases rd with
  | @tup xs vs p f rs =>
    cases re with
    | @tup ys us q g rt =>
      cases ys with
      | nil =>
        have : us = [] := by simpa using rt.len.symm
        subst this
        cases rx
        cases ry
        obtain ⟨its, r1, t1, _⟩ := I.tuple f.sq
        obtain ⟨its2, r2, t2, _⟩ := I.tuple g.sq
        cases r2
        have l := rs.len
        have l2 := r1.length
        refine PySem.W.eq_tuplesT (n := 0) (e := fun _ => true) t1 t2 (fun j h1 h2 => absurd h2 (by simp)) (by omega) ?_
        refine ⟨.bl xs.isEmpty, H, I, ?_, a.val hr (.bl _)⟩
        show Value.bool _ = Value.bool _
        have e1 : its.length = xs.length := by omega
        cases xs with
        | nil => simp at e1; subst e1; rfl
        | cons a b => simp [e1]
      | cons y ys => exact gen a
    | _ => exact gen a
  | @lst xs vs p f rs =>
    cases re with
    | @lst ys us q g rt =>
      cases ys with
      | nil =>
        have : us = [] := by simpa using rt.len.symm
        subst this
        cases rx
        cases ry
        obtain ⟨its, r1, t1, _⟩ := I.list (.inl (.inl f.1))
        obtain ⟨its2, r2, t2, _⟩ := I.list (.inl (.inl g.1))
        cases r2
        have l := rs.len
        have l2 := r1.length
        have e1 : its.length = xs.length := by omega
        have fin : EP X pins σ Q (.bool xs.isEmpty) s := ⟨.bl xs.isEmpty, H, I, rfl, a.val hr (.bl _)⟩
        cases xs with
        | nil =>
          have e0 : its = [] := by simpa using e1
          subst e0
          exact PySem.W.eq_listsT (n := 0) (e := fun _ => true) t1.isList t2.isList rfl (fun j h1 h2 => absurd h2 (by simp)) (by omega) fin
        | cons z zs => exact SeqAt.eq_list_lengthsAt t1.isList t2.isList (by simp [e1]) (by omega) fin
      | cons y ys => exact gen a
    | _ => exact gen a
  | str x =>
    cases re with
    | str y =>
      refine op_eq pins s σ H _ _ v u Q I rx ry ⟨rfl, ?_⟩
      have z : decide (V.str x = V.str y) = decide (x = y) := decide_eq_decide.mpr ⟨fun q => by cases q; rfl, fun q => by rw [q]⟩
      rw [z]
      exact a.val hr (.bl _)
    | _ => exact gen a
  | int x =>
    cases re with
    | int y =>
      refine op_eq pins s σ H _ _ v u Q I rx ry ⟨rfl, ?_⟩
      have z : decide (V.int x = V.int y) = decide (x = y) := decide_eq_decide.mpr ⟨fun q => by cases q; rfl, fun q => by rw [q]⟩
      rw [z]
      exact a.val hr (.bl _)
    | _ => exact gen a
  | _ => cases re <;> exact gen a
theorem opS_ne (hS : SysD X.K) (hu : X.A.units + 64 < cLine) : OpR X (compareOp .NotEq) (r2M X.K E neD) := by
  intro pins s σ H x y v u Q I rx ry hh
  obtain ⟨θ, h, d, e, hr, rd, re, a⟩ := hh
  have gen : After X.K θ H E (match toPy h 64 d, toPy h 64 e with
      | some p, some q => okb (SeqAt.shaped p && SeqAt.shaped q) (.ok (.bl (Bool.not (PyData.eqv p q))) h)
      | _, _ => .bad) Q → wpAny (model X.prog X.w) X.A (compareOp .NotEq v u) (EP X pins σ Q) X.xe s := fun a =>
    toPy_two (g := Bool.not) hS I rx ry hr rd re (fun r1 r2 s1 s2 q => SeqAt.compareNe_shaped r1 r2 s1 s2 hu q) a
  cases rd with
  | @tup xs vs p f rs =>
    cases re with
    | @tup ys us q g rt =>
      cases ys with
      | nil =>
        have : us = [] := by simpa using rt.len.symm
        subst this
        cases rx
        cases ry
        obtain ⟨its, r1, t1, _⟩ := I.tuple f.sq
        obtain ⟨its2, r2, t2, _⟩ := I.tuple g.sq
        cases r2
        have e1 : its.length = xs.length := by rw [rs.len, r1.length]
        refine SeqAt.RcNeAt.tuples (e := fun _ => true) t1 t2 (by omega) (fun j h1 h2 => absurd h2 (by simp)) _ _ _ _ ⟨.bl (!xs.isEmpty), H, I, ?_, a.val hr (.bl _)⟩
        show Value.bool _ = Value.bool _
        cases xs with
        | nil => simp at e1; subst e1; rfl
        | cons a b => simp [e1]
      | cons y ys => exact gen a
    | _ => exact gen a
  | @lst xs vs p f rs =>
    cases re with
    | @lst ys us q g rt =>
      cases ys with
      | nil =>
        have : us = [] := by simpa using rt.len.symm
        subst this
        cases rx
        cases ry
        obtain ⟨its, r1, t1, _⟩ := I.list (.inl (.inl f.1))
        obtain ⟨its2, r2, t2, _⟩ := I.list (.inl (.inl g.1))
        cases r2
        have e1 : its.length = xs.length := by rw [rs.len, r1.length]
        have fin : EP X pins σ Q (.bool (!xs.isEmpty)) s := ⟨.bl (!xs.isEmpty), H, I, rfl, a.val hr (.bl _)⟩
        cases xs with
        | nil =>
          have e0 : its = [] := by simpa using e1
          subst e0
          exact SeqAt.RcNeAt.lists (e := fun _ => true) t1.isList t2.isList rfl (by omega) (fun j h1 h2 => absurd h2 (by simp)) _ _ _ _ fin
        | cons z zs => exact SeqAt.RcNeAt.lists_lengths t1.isList t2.isList (by simp [e1]) (by omega) _ _ _ _ fin
      | cons y ys => exact gen a
    | _ => exact gen a
  | str x =>
    cases re with
    | str y =>
      refine op_ne pins s σ H _ _ v u Q I rx ry ⟨rfl, ?_⟩
      have z : decide (V.str x = V.str y) = decide (x = y) := decide_eq_decide.mpr ⟨fun q => by cases q; rfl, fun q => by rw [q]⟩
      rw [z]
      exact a.val hr (.bl _)
    | _ => exact gen a
  | int x =>
    cases re with
    | int y =>
      refine op_ne pins s σ H _ _ v u Q I rx ry ⟨rfl, ?_⟩
      have z : decide (V.int x = V.int y) = decide (x = y) := decide_eq_decide.mpr ⟨fun q => by cases q; rfl, fun q => by rw [q]⟩
      rw [z]
      exact a.val hr (.bl _)
    | _ => exact gen a
  | _ => cases re <;> exact gen a
theorem Rep.isN {K : PySem.W.Frag} {θ : Th} {H : Hp} {d : D} {v : V} (r : Rep K θ H d v) : decide (v = .non) = isNon d := by
  cases r <;> simp [isNon]
theorem opS_is : OpR X (compareOp .Is) (r2M X.K E (isD false)) := by
  intro pins s σ H x y v u Q I rx ry hh
  obtain ⟨θ, h, d, e, hr, rd, re, a⟩ := hh
  cases re with
  | non =>
    refine op_isN pins s σ H _ _ v u Q I rx ry ⟨rfl, ?_⟩
    rw [rd.isN]
    exact (show After X.K θ H E (.ok (.bl (isNon d)) h) Q by simpa [isD] using a).val hr (.bl _)
  | _ => exact False.elim a
theorem opS_isnot : OpR X (compareOp .IsNot) (r2M X.K E (isD true)) := by
  intro pins s σ H x y v u Q I rx ry hh
  obtain ⟨θ, h, d, e, hr, rd, re, a⟩ := hh
  cases re with
  | non =>
    refine op_notN pins s σ H _ _ v u Q I rx ry ⟨rfl, ?_⟩
    rw [rd.isN]
    exact (show After X.K θ H E (.ok (.bl (!isNon d)) h) Q by simpa [isD] using a).val hr (.bl _)
  | _ => exact False.elim a
theorem opS_cmp {F : Value → Value → Sem Value} {p : Int → Int → Bool} {q : List Nat → List Nat → Bool} (o : OpR X F (rI0 fun i j => .bl (p i j))) (o2 : OpR X F (fun x y H Q => ∃ i j, x = .str i ∧ y = .str j ∧ Q (.bl (q i.cps.toList j.cps.toList)) H)) : OpR X F (r2M X.K E (cmpD p q)) := by
  intro pins s σ H x y v u Q I rx ry hh
  obtain ⟨θ, h, d, e, hr, rd, re, a⟩ := hh
  cases rd with
  | int i => cases re with
    | int j => exact o pins s σ H _ _ v u Q I rx ry ⟨i, j, rfl, rfl, a.val hr (.bl _)⟩
    | _ => exact False.elim a
  | str i => cases re with
    | str j => exact o2 pins s σ H _ _ v u Q I rx ry ⟨i, j, rfl, rfl, a.val hr (.bl _)⟩
    | _ => exact False.elim a
  | _ => cases re <;> exact False.elim a
theorem opS_lt : OpR X (compareOp .Lt) (r2M X.K E ltD) := opS_cmp op_lt op_lt_str
theorem opS_le : OpR X (compareOp .LtE) (r2M X.K E leD) := opS_cmp op_le op_le_str
theorem opS_gt : OpR X (compareOp .Gt) (r2M X.K E gtD) := opS_cmp op_gt op_gt_str
theorem opS_ge : OpR X (compareOp .GtE) (r2M X.K E geD) := opS_cmp op_ge op_ge_str
theorem flatD_ok {K : PySem.W.Frag} {θ : Th} {H : Hp} {d : D} {v w : V} (r : Rep K θ H d v) (e : flatD d = some w) : v = w ∧ flatV v = true := by
  cases r <;> cases e <;> exact ⟨rfl, rfl⟩
theorem flatDs_ok {K : PySem.W.Frag} {θ : Th} {H : Hp} : ∀ {ds : List D} {vs ws : List V}, Reps K θ H ds vs → allM flatD ds = some ws → vs = ws ∧ vs.all flatV = true
  | [], _, _, .nil, e => by cases (show some [] = some _ from e); exact ⟨rfl, rfl⟩
  | d :: ds, _, _, .cons r t, e => by
    obtain ⟨y, zs, rfl, e1, e2⟩ := allM_cons e
    obtain ⟨h1, h2⟩ := flatD_ok r e1
    obtain ⟨h3, h4⟩ := flatDs_ok t e2
    subst h1 h3
    exact ⟨rfl, by simp [h2] at h4 ⊢; exact h4⟩
theorem opS_in {n : Bool} {op : CmpOp} (ho : op = if n then .NotIn else .In) : OpR X (compareOp op) (r2M X.K E (inD n)) := by
  intro pins s σ H x y v u Q I rx ry hh
  obtain ⟨θ, h, d, e, hr, rd, re, a⟩ := hh
  have seq : After X.K θ H E (match flatD d, sqD h e with
    | some v, some ys => (match allM flatD ys with
      | some vs => .ok (.bl (n.xor (inV v vs))) h
      | none => .bad)
    | _, _ => .bad) Q → wpAny (model X.prog X.w) X.A (compareOp op v u) (EP X pins σ Q) X.xe s := by
    intro a
    cases q1 : flatD d with
    | none => rw [q1] at a; exact False.elim a
    | some w =>
      cases q2 : sqD h e with
      | none => rw [q1, q2] at a; exact False.elim a
      | some ys =>
        rw [q1, q2] at a
        cases q3 : allM flatD ys with
        | none => simp only [q3] at a; exact False.elim a
        | some ws =>
          simp only [q3] at a
          obtain ⟨h1, h2⟩ := flatD_ok rd q1
          obtain ⟨p, vs, h3, h4, h5⟩ := sqD_ok hr re q2
          obtain ⟨h6, h7⟩ := flatDs_ok h5 q3
          subst h1 h3 h6
          cases n with
          | false =>
            subst ho
            refine op_in_seq pins s σ H _ _ v u Q I rx ry ⟨p, _, rfl, h4, h2, h7, ?_⟩
            exact (show After X.K θ H E (.ok (.bl (if false = true then !inV x vs else inV x vs)) h) Q by simpa using a).val hr (.bl _)
          | true =>
            subst ho
            refine op_notIn_seq pins s σ H _ _ v u Q I rx ry ⟨p, _, rfl, h4, h2, h7, ?_⟩
            exact (show After X.K θ H E (.ok (.bl (if true = true then !inV x vs else inV x vs)) h) Q by simpa using a).val hr (.bl _)
  cases rd with
  | str i => cases re with
    | str j =>
      have key : ∀ b : Bool, (match i.cps.toList with
        | [c] => n.xor (decide (c ∈ j.cps.toList))
        | _ => n.xor (!(Builtin.Str.occurrences j i 0 j.length 1).isEmpty)) = b → After X.K θ H E (.ok (.bl b) h) Q := fun b e => by subst e; exact a
      cases q : i.cps.toList with
      | nil =>
        have k := key _ (by rw [q])
        cases n with
        | false => subst ho; exact op_in_str pins s σ H _ _ v u Q I rx ry ⟨i, j, rfl, rfl, (show After X.K θ H E (.ok (.bl _) h) Q by simpa using k).val hr (.bl _)⟩
        | true => subst ho; exact op_notin_str pins s σ H _ _ v u Q I rx ry ⟨i, j, rfl, rfl, (show After X.K θ H E (.ok (.bl _) h) Q by simpa using k).val hr (.bl _)⟩
      | cons c t =>
        cases t with
        | nil =>
          have k := key _ (by rw [q])
          have ei : i = ⟨#[c]⟩ := by
            obtain ⟨⟨l⟩⟩ := i
            simp at q
            subst q
            rfl
          subst ei
          cases n with
          | false => subst ho; exact op_in_sign pins s σ H _ _ v u Q I rx ry ⟨c, j, rfl, rfl, (show After X.K θ H E (.ok (.bl _) h) Q by simpa using k).val hr (.bl _)⟩
          | true => subst ho; exact op_notIn_sign pins s σ H _ _ v u Q I rx ry ⟨c, j, rfl, rfl, (show After X.K θ H E (.ok (.bl _) h) Q by simpa using k).val hr (.bl _)⟩
        | cons c2 t =>
          have k := key _ (by rw [q])
          cases n with
          | false => subst ho; exact op_in_str pins s σ H _ _ v u Q I rx ry ⟨i, j, rfl, rfl, (show After X.K θ H E (.ok (.bl _) h) Q by simpa using k).val hr (.bl _)⟩
          | true => subst ho; exact op_notin_str pins s σ H _ _ v u Q I rx ry ⟨i, j, rfl, rfl, (show After X.K θ H E (.ok (.bl _) h) Q by simpa using k).val hr (.bl _)⟩
    | _ => exact seq a
  | _ => cases re <;> exact seq a
end
end Mp

set_option Elab.async false
set_option linter.all false
set_option autoImplicit false
set_option maxRecDepth 100000
set_option maxHeartbeats 4000000
namespace Mp
open PySem PySem.Spec L2
/-! ### truth -/
def truD (h : AH) : D → Option Bool
  | .non => some false
  | .bl b => some b
  | .int i => some (i != 0)
  | .str x => if x.length ≤ sizeLine then some ((x.length : Int) != 0) else none
  | .tup xs => some (!xs.isEmpty)
  | .lst xs => some (!xs.isEmpty)
  | .ref n => (asL h[n]?).map fun xs => !xs.isEmpty
  | .dic ks _ => some (!ks.isEmpty)
  | _ => none
def truR (d : D) (h : AH) : R Bool := match truD h d with
  | some b => .ok b h
  | none => .bad
def strF (ds : List D) (h : AH) : R D := match ds with
  | [.int i] => okb (decide (i.natAbs.log2 < 1920)) (.ok (.str (toString i)) h)
  | [.str x] => .ok (.str x) h
  | [.bl b] => .ok (.str (if b then "True" else "False")) h
  | _ => .bad
/-! ### isinstance -/
def tyNm (h : AH) : D → Option String
  | .non => some "NoneType"
  | .bl _ => some "bool"
  | .int _ => some "int"
  | .str _ => some "str"
  | .tup _ => some "tuple"
  | .lst _ => some "list"
  | .dic _ _ => some "dict"
  | .ref n => match h[n]? with
    | some (.lst _) => some "list"
    | some (.dic _ _) => some "dict"
    | _ => none
  | _ => none
def isiD (ds : List D) (h : AH) : R D := match ds with
  | [d, .ty T] => (match tyNm h d with
    | some t => (match kitB t T with
      | some b => .ok (.bl b) h
      | none => .bad)
    | none => .bad)
  | _ => .bad
section
variable {K : PySem.W.Frag} {θ : Th} {H : Hp} {h : AH} {d : D} {v : V}
theorem isEmpty_reps {xs : List D} {vs : List V} (r : Reps K θ H xs vs) : vs.isEmpty = xs.isEmpty := by cases r <;> rfl
theorem truD_ok {b : Bool} (hr : HRep K θ H h) (r : Rep K θ H d v) (e : truD h d = some b) : TruV K v H b := by
  cases r with
  | non => cases e; rfl
  | bl _ => cases e; rfl
  | int _ => cases e; rfl
  | str x =>
    have e' : (if x.length ≤ sizeLine then some ((x.length : Int) != 0) else none) = some b := e
    by_cases hz : x.length ≤ sizeLine
    · rw [if_pos hz] at e'; cases e'; exact ⟨hz, rfl⟩
    · rw [if_neg hz] at e'; cases e'
  | tup f rs => cases e; exact .inr (.inl ⟨_, f.sq, by rw [isEmpty_reps rs]⟩)
  | lst f rs => cases e; exact .inl ⟨_, SqL.of f.1, by rw [isEmpty_reps rs]⟩
  | @dic ks xs vs a f l rs =>
    cases e
    refine .inr (.inr ⟨_, f.1, ?_⟩)
    cases ks with
    | nil => rfl
    | cons k ks => cases vs with
      | nil => simp at l
      | cons v vs => rfl
  | @ref n a q =>
    obtain ⟨xs, e1, rfl⟩ := map_some (show (asL h[n]?).map (fun xs => !xs.isEmpty) = some b from e)
    obtain ⟨vs, h1, h2⟩ := hr.lst q (asL_eq e1)
    exact .inl ⟨vs, SqL.of h1, by rw [isEmpty_reps h2]⟩
  | _ => cases e
theorem tyNm_ok {t : String} (hr : HRep K θ H h) (r : Rep K θ H d v) (e : tyNm h d = some t) : TyX K H v (.type t) := by
  cases r with
  | non => cases e; exact .base .non
  | bl b => cases e; exact .base (.bl b)
  | int i => cases e; exact .base (.int i)
  | str x => cases e; exact .base (.str x)
  | tup f rs =>
    cases e
    rcases f with ⟨f | ⟨o, f⟩, _⟩ | ⟨o, its, n, k, c, _⟩
    · exact .base (.tup f)
    · exact .fTuple f
    · exact .kTuple k c
  | lst f rs => cases e; exact .base (.lst f.1)
  | dic f l rs => cases e; exact .base (.dK f.1)
  | @ref n a q =>
    have e' : (match h[n]? with
      | some (.lst _) => some "list"
      | some (.dic _ _) => some "dict"
      | _ => none) = some t := e
    cases z : h[n]? with
    | none => rw [z] at e'; cases e'
    | some o =>
      rw [z] at e'
      have ob := hr.ob n a o q z
      cases o with
      | lst xs => cases e'; obtain ⟨vs, h1, _⟩ := ob; exact .base (.lst h1)
      | dic ks xs => cases e'; obtain ⟨vs, h1, _⟩ := ob; exact .base (.dK h1)
      | ins c fs => cases e'
  | _ => cases e
end
section
variable {X : Cx} {E : XW}
theorem Reps.one {K : PySem.W.Frag} {θ : Th} {H : Hp} {d : D} {vs : List V} (r : Reps K θ H [d] vs) : ∃ v, vs = [v] ∧ Rep K θ H d v := by
  cases r with
  | cons r t => cases t; exact ⟨_, rfl, r⟩
theorem Reps.two {K : PySem.W.Frag} {θ : Th} {H : Hp} {d e : D} {vs : List V} (r : Reps K θ H [d, e] vs) : ∃ v w, vs = [v, w] ∧ Rep K θ H d v ∧ Rep K θ H e w := by
  cases r with
  | cons r t => obtain ⟨w, rfl, q⟩ := Reps.one t; exact ⟨_, w, rfl, r, q⟩
theorem callS_isi : CallR X (.builtin "isinstance") (rLM X.K E isiD) := by
  intro pins s σ H xs us Q I r hh
  obtain ⟨θ, h, ds, hr, rs, a⟩ := hh
  unfold isiD at a
  split at a
  · rename_i d T
    obtain ⟨v, w, rfl, rd, rT⟩ := rs.two
    cases rT
    split at a
    · rename_i t e1
      split at a
      · rename_i b e2
        exact call_isi pins s σ H _ us Q I r ⟨v, .ty T, _, _, b, rfl, .ty T, tyNm_ok hr rd e1, kit_ty e2, a.val hr (.bl _)⟩
      · exact False.elim a
    · exact False.elim a
  · exact False.elim a
/-! ### len, int, abs, list, tuple, all, any -/
def lenD (ds : List D) (h : AH) : R D := match ds with
  | [.str x] => okb (decide (x.length ≤ sizeLine)) (.ok (.int x.length) h)
  | [.dic ks _] => .ok (.int ks.length) h
  | [.scr xs] => .ok (.int xs.length) h
  | [d] => (match sqD h d with
    | some xs => .ok (.int xs.length) h
    | none => .bad)
  | _ => .bad
theorem callS_len : CallR X (.builtin "len") (rLM X.K E lenD) := by
  intro pins s σ H xs us Q I r hh
  obtain ⟨θ, h, ds, hr, rs, a⟩ := hh
  have seq : ∀ {d : D} {v : V}, xs = [v] → Rep X.K θ H d v → After X.K θ H E (match sqD h d with
    | some xs => .ok (.int xs.length) h
    | none => .bad) Q → wpAny (model X.prog X.w) X.A (call (.builtin "len") us) (EP X pins σ Q) X.xe s := by
    rintro d v rfl rd a
    cases q : sqD h d with
    | none => rw [q] at a; exact False.elim a
    | some ys =>
      rw [q] at a
      obtain ⟨p, vs, rfl, h4, h5⟩ := sqD_ok hr rd q
      refine call_len_seq pins s σ H _ us Q I r ⟨p, vs, rfl, h4, ?_⟩
      rw [← h5.len]
      exact a.val hr (.int _)
  unfold lenD at a
  split at a
  · obtain ⟨v, rfl, rd⟩ := rs.one
    cases rd
    obtain ⟨c, a⟩ := After.okb a
    exact call_len_str pins s σ H _ us Q I r ⟨_, rfl, of_decide_eq_true c, a.val hr (.int _)⟩
  · obtain ⟨v, rfl, rd⟩ := rs.one
    cases rd with
    | @dic ks0 xs0 vs p f l rt =>
      refine call_lenD pins s σ H _ us Q I r ⟨p, _, rfl, f.1, ?_⟩
      rw [List.length_zip, ← l, Nat.min_self]
      exact a.val hr (.int _)
  · obtain ⟨v, rfl, rd⟩ := rs.one
    cases rd with
    | @scr xs vs p f rt =>
      refine call_len_seq pins s σ H _ us Q I r ⟨p, vs, rfl, .inl f.sq, ?_⟩
      rw [← rt.len]
      exact a.val hr (.int _)
  · obtain ⟨v, rfl, rd⟩ := rs.one
    exact seq rfl rd a
  · exact False.elim a
def intD (ds : List D) (h : AH) : R D := match ds with
  | [.int i] => .ok (.int i) h
  | [.bl b] => .ok (.int (if b then 1 else 0)) h
  | _ => .bad
theorem callS_int : CallR X (.type "int") (rLM X.K E intD) := by
  intro pins s σ H xs us Q I r hh
  obtain ⟨θ, h, ds, hr, rs, a⟩ := hh
  unfold intD at a
  split at a
  · obtain ⟨v, rfl, rd⟩ := rs.one
    cases rd
    exact call_int1 pins s σ H _ us Q I r (.inl ⟨_, rfl, a.val hr (.int _)⟩)
  · obtain ⟨v, rfl, rd⟩ := rs.one
    cases rd
    exact call_int1 pins s σ H _ us Q I r (.inr ⟨_, rfl, a.val hr (.int _)⟩)
  · exact False.elim a
def absD (ds : List D) (h : AH) : R D := match ds with
  | [.int i] => .ok (.int (if i < 0 then -i else i)) h
  | _ => .bad
theorem callS_str : CallR X (.type "str") (rLM X.K E strF) := by
  intro pins s σ H xs us Q I r hh
  obtain ⟨θ, h, ds, hr, rs, a⟩ := hh
  cases rs with
  | nil => exact False.elim a
  | cons r1 r2 => cases r2 with
    | cons _ _ => cases r1 <;> exact False.elim a
    | nil => cases r1 with
      | int i =>
        obtain ⟨c, a⟩ := After.okb a
        exact call_str_int pins s σ H _ us Q I r ⟨i, rfl, of_decide_eq_true c, a.val hr (.str _)⟩
      | str x => exact SkE.call_str_str pins s σ H _ us Q I r ⟨x, rfl, a.val hr (.str _)⟩
      | bl b =>
        obtain ⟨w, rfl, rw'⟩ := vals1 r
        cases rw'
        exact PySem.P.str_of_bool ⟨.str _, H, I.tok _, ⟨_, rfl⟩, a.val hr (.str _)⟩
      | _ => exact False.elim a
theorem callS_abs : CallR X (.builtin "abs") (rLM X.K E absD) := by
  intro pins s σ H xs us Q I r hh
  obtain ⟨θ, h, ds, hr, rs, a⟩ := hh
  unfold absD at a
  split at a
  · obtain ⟨v, rfl, rd⟩ := rs.one
    cases rd
    exact call_abs pins s σ H _ us Q I r ⟨_, rfl, a.val hr (.int _)⟩
  · exact False.elim a
def signsD (x : Str) : List D := x.cps.toList.map fun c => .str ⟨#[c]⟩
def listD (m : Bool) (ds : List D) (h : AH) : R D := match ds with
  | [.str x] => okb (decide (x.length ≤ sizeLine)) (newL m (signsD x) h)
  | [.scr xs] => newL m xs h
  | [d] => (match sqD h d with
    | some xs => newL m xs h
    | none => .bad)
  | _ => .bad
theorem callS_list {m : Bool} (hh : X.A.handled = none) : CallR X (.type "list") (rLM X.K E (listD m)) := by
  intro pins s σ H xs us Q I r hh'
  obtain ⟨θ, h, ds, hr, rs, a⟩ := hh'
  unfold listD at a
  split at a
  · rename_i x
    obtain ⟨v, rfl, rd⟩ := rs.one
    cases rd
    obtain ⟨c, a⟩ := After.okb a
    have c := of_decide_eq_true c
    obtain ⟨u, rfl, ru⟩ := vals1 r
    obtain ⟨t, rfl⟩ := ru
    refine PySem.call_list_str hh x t (hn := c) fun h' tk acc' c' hk hS' hacc => ?_
    have hvs : Vals (x.cps.toList.map fun c => V.str ⟨#[c]⟩) acc'.toList := by
      have hl : (x.cps.toList.map fun c => V.str ⟨#[c]⟩).length = acc'.toList.length := by simp [hacc.1]
      have gen : ∀ (l : List V) (m : List Value), l.length = m.length → (∀ (i : Nat) (v : V) (w : Value), l[i]? = some v → m[i]? = some w → RelV v w) → Vals l m := by
        intro l
        induction l with
        | nil => intro m hl _; cases m with
          | nil => exact .nil
          | cons _ _ => simp at hl
        | cons a l ih => intro m hl hg; cases m with
          | nil => simp at hl
          | cons b m => exact .cons (hg 0 a b rfl rfl) (ih m (by simpa using hl) fun i v w e1 e2 => hg (i + 1) v w (by simpa using e1) (by simpa using e2))
      refine gen _ _ hl fun i v w e1 e2 => ?_
      obtain ⟨c, u, hc, rfl⟩ := hacc.2 i w (by simpa using e2)
      rw [List.getElem?_map] at e1
      have hc' : x.cps.toList[i]? = some c := by simpa using hc
      rw [hc'] at e1
      cases e1
      exact ⟨u, rfl⟩
    refine ⟨.ref s.heap.objs.size, _, I.laid (t' := tk) (o := .lst (x.cps.toList.map fun c => V.str ⟨#[c]⟩)) hk (Nat.le_refl _) ⟨by simpa [Str.length] using c, acc'.toList, c', hvs, by simpa using hS'⟩, rfl, newL_ok hr ?_ a I.fresh⟩
    have gen2 : ∀ l : List Nat, Reps X.K θ H (l.map fun c => D.str ⟨#[c]⟩) (l.map fun c => V.str ⟨#[c]⟩) := by
      intro l
      induction l with
      | nil => exact .nil
      | cons c l ih => exact .cons (.str _) ih
    exact gen2 _
  · obtain ⟨v, rfl, rd⟩ := rs.one
    cases rd with
    | @scr xs vs p f rt => exact call_list_of pins s σ H _ us Q I r ⟨p, vs, rfl, .inl f.sq, fun l hl => newL_ok hr rt a hl⟩
  · rename_i d _ _
    obtain ⟨v, rfl, rd⟩ := rs.one
    cases q : sqD h d with
    | none => simp only [q] at a; exact False.elim a
    | some ys =>
      simp only [q] at a
      obtain ⟨p, vs, rfl, h4, h5⟩ := sqD_ok hr rd q
      exact call_list_of pins s σ H _ us Q I r ⟨p, vs, rfl, h4, fun l hl => newL_ok hr h5 a hl⟩
  · exact False.elim a
def tupleD (ds : List D) (h : AH) : R D := match ds with
  | [.tup xs] => .ok (.tup xs) h
  | [d] => (match lsD h d with
    | some xs => .ok (.tup xs) h
    | none => .bad)
  | _ => .bad
theorem callS_tuple : CallR X (.type "tuple") (rLM X.K E tupleD) := by
  intro pins s σ H xs us Q I r hh
  obtain ⟨θ, h, ds, hr, rs, a⟩ := hh
  unfold tupleD at a
  split at a
  · obtain ⟨v, rfl, rd⟩ := rs.one
    cases rd with
    | @tup xs vs p f rt => exact call_tuple_of pins s σ H _ us Q I r ⟨p, vs, rfl, .inr ⟨f.sq, a.val hr (.tup f rt)⟩⟩
  · rename_i d _
    obtain ⟨v, rfl, rd⟩ := rs.one
    cases q : lsD h d with
    | none => simp only [q] at a; exact False.elim a
    | some ys =>
      simp only [q] at a
      obtain ⟨p, vs, rfl, h4, h5⟩ := lsD_ok hr rd q
      exact call_tuple_of pins s σ H _ us Q I r ⟨p, vs, rfl, .inl ⟨SqL.of h4, fun l hl => newT_ok hr h5 a hl⟩⟩
  · exact False.elim a
def blD : D → Option Bool
  | .bl b => some b
  | _ => none
def allD (ds : List D) (h : AH) : R D := match ds with
  | [d] => (match lsD h d with
    | some xs => (match allM blD xs with
      | some bs => .ok (.bl (bs.all id)) h
      | none => .bad)
    | none => .bad)
  | _ => .bad
def anyD (ds : List D) (h : AH) : R D := match ds with
  | [d] => (match lsD h d with
    | some xs => (match allM blD xs with
      | some bs => .ok (.bl (bs.any id)) h
      | none => .bad)
    | none => .bad)
  | _ => .bad
theorem blD_ok {K : PySem.W.Frag} {θ : Th} {H : Hp} : ∀ {ds : List D} {vs : List V} {bs : List Bool}, Reps K θ H ds vs → allM blD ds = some bs → vs = bs.map V.bl
  | [], _, _, .nil, e => by cases (show some [] = some _ from e); rfl
  | d :: ds, _, _, .cons r t, e => by
    obtain ⟨y, zs, rfl, e1, e2⟩ := allM_cons e
    cases r <;> cases e1
    rw [blD_ok t e2]
    rfl
theorem callS_all (hc : X.calm = true) : CallR X (.builtin "all") (rLM X.K E allD) := by
  intro pins s σ H xs us Q I r hh
  obtain ⟨θ, h, ds, hr, rs, a⟩ := hh
  unfold allD at a
  split at a
  · rename_i d
    obtain ⟨v, rfl, rd⟩ := rs.one
    cases q : lsD h d with
    | none => simp only [q] at a; exact False.elim a
    | some ys =>
      cases q2 : allM blD ys with
      | none => simp only [q, q2] at a; exact False.elim a
      | some bs =>
        simp only [q, q2] at a
        obtain ⟨p, vs, rfl, h4, h5⟩ := lsD_ok hr rd q
        have e := blD_ok h5 q2
        subst e
        exact cr_all hc pins s σ H _ us Q I r ⟨p, bs, rfl, SqL.of h4, a.val hr (.bl _)⟩
  · exact False.elim a
theorem callS_any (hc : X.calm = true) : CallR X (.builtin "any") (rLM X.K E anyD) := by
  intro pins s σ H xs us Q I r hh
  obtain ⟨θ, h, ds, hr, rs, a⟩ := hh
  unfold anyD at a
  split at a
  · rename_i d
    obtain ⟨v, rfl, rd⟩ := rs.one
    cases q : lsD h d with
    | none => simp only [q] at a; exact False.elim a
    | some ys =>
      cases q2 : allM blD ys with
      | none => simp only [q, q2] at a; exact False.elim a
      | some bs =>
        simp only [q, q2] at a
        obtain ⟨p, vs, rfl, h4, h5⟩ := lsD_ok hr rd q
        have e := blD_ok h5 q2
        subst e
        exact cr_any hc pins s σ H _ us Q I r ⟨p, bs, rfl, SqL.of h4, a.val hr (.bl _)⟩
  · exact False.elim a
/-! ### repr -/
def reprD (ds : List D) (h : AH) : R D := match ds with
  | [d] => (match toPy h 64 d with
    | some p => okb (p.showable && (decide (p.shown.length ≤ sizeLine) && decide (p.depth ≤ 64))) (.ok (.str p.shown) h)
    | none => .bad)
  | _ => .bad
theorem callS_repr (hS : SysD X.K) (hg : X.A.guards = some []) (hu : X.A.units + 66 < cLine) : CallR X (.builtin "repr") (rLM X.K E reprD) := by
  intro pins s σ H xs us Q I r hh
  obtain ⟨θ, h, ds, hr, rs, a⟩ := hh
  unfold reprD at a
  split at a
  · rename_i d
    obtain ⟨v, rfl, rd⟩ := rs.one
    obtain ⟨u, rfl, ru⟩ := vals1 r
    cases q : toPy h 64 d with
    | none => simp only [q] at a; exact False.elim a
    | some p =>
      simp only [q] at a
      obtain ⟨c, a⟩ := After.okb a
      have c := Bool.and_eq_true_iff.mp c
      have c2 := Bool.and_eq_true_iff.mp c.2
      have hd := of_decide_eq_true c2.2
      have hz := of_decide_eq_true c2.1
      obtain ⟨as, hreads, hn⟩ := reads_of I hS hr 64 d v u p rd ru q
      have fin : ∀ (h' : Heap) (t : Tok) (tk : Nat), (∀ b o, s.heap.get? b = some o → h'.get? b = some o) → EP X pins σ Q (.str p.shown t) { s with heap := h', toks := tk } := fun h' t tk hk =>
        ⟨.str p.shown, H, I.kept hk, ⟨t, rfl⟩, a.val hr (.str _)⟩
      have self : ∀ (t : Tok) (tk : Nat), EP X pins σ Q (.str p.shown t) { s with toks := tk } := fun t tk => fin s.heap t tk fun _ _ e => e
      cases hreads with
      | none => simp only [PyData.shown] at self; exact PySem.P.repr_of_none (self _ _)
      | bool b => simp only [PyData.shown] at self; exact PySem.P.repr_of_bool (self _ _)
      | int i t => simp only [PyData.shown] at self; exact PySem.P.repr_of_int (by simpa [PyData.showable] using c.1) (self _ _)
      | str x t => simp only [PyData.shown] at self hz; exact PySem.P.repr_of_str (self _ _) hz
      | list h1 h2 h3 h4 => exact PySem.repr_of_reads' (h₀ := s.heap) (.list h1 h2 h3 h4) c.1 (fun _ => hn) hg (by omega) (fun _ _ e => e) fin hz
      | tuple h1 h2 h3 h4 => exact PySem.repr_of_reads' (h₀ := s.heap) (.tuple h1 h2 h3 h4) c.1 (fun _ => hn) hg (by omega) (fun _ _ e => e) fin hz
      | dict h1 h2 h3 h4 h5 => exact PySem.repr_of_reads' (h₀ := s.heap) (.dict h1 h2 h3 h4 h5) c.1 (fun _ => hn) hg (by omega) (fun _ _ e => e) fin hz
  · exact False.elim a
end
end Mp

set_option Elab.async false
set_option linter.all false
set_option autoImplicit false
set_option maxRecDepth 100000
set_option maxHeartbeats 4000000
namespace Mp
open PySem PySem.Spec L2
/-! ### places and slices -/
def ixD (d e : D) (h : AH) : R D := match d, e with
  | .str z, .int i => (match atI z.cps.toList i with
    | some c => okb (decide (z.length ≤ sizeLine)) (.ok (.str ⟨#[c]⟩) h)
    | none => .bad)
  | d, .int i => (match sqD h d with
    | some xs => (match atI xs i with
      | some x => .ok x h
      | none => .bad)
    | none => .bad)
  | _, _ => .bad
def cutD (xs : List D) (lo hi : Option Int) : List D := (xs.drop (HT.sIx xs.length 0 lo)).take (HT.sIx xs.length xs.length hi - HT.sIx xs.length 0 lo)
def slD (m : Bool) (d : D) (lo hi : Option Int) (h : AH) : R D := match d with
  | .str z => okb (decide (z.length ≤ sizeLine)) (.ok (.str (cutS z lo hi)) h)
  | .tup xs => .ok (.tup (cutD xs lo hi)) h
  | .scr xs => newL m (cutD xs lo hi) h
  | d => (match lsD h d with
    | some xs => newL m (cutD xs lo hi) h
    | none => .bad)
def rSM (K : PySem.W.Frag) (E : XW) (f : D → Option Int → Option Int → AH → R D) : V → Option Int → Option Int → Hp → VK → Prop := fun x lo hi H Q => ∃ θ h d, HRep K θ H h ∧ Rep K θ H d x ∧ After K θ H E (f d lo hi h) Q
section
variable {X : Cx} {E : XW}
theorem atI_reps {K : PySem.W.Frag} {θ : Th} {H : Hp} {xs : List D} {vs : List V} {i : Int} {x : D} (r : Reps K θ H xs vs) (e : atI xs i = some x) : ∃ v, atI vs i = some v ∧ Rep K θ H x v := by
  unfold atI at e ⊢
  rw [← r.len]
  cases q : ixN xs.length i with
  | none => rw [q] at e; cases e
  | some j =>
    rw [q] at e
    exact r.get (i := j) e
theorem cutD_reps {K : PySem.W.Frag} {θ : Th} {H : Hp} {xs : List D} {vs : List V} {lo hi : Option Int} (r : Reps K θ H xs vs) : Reps K θ H (cutD xs lo hi) (cutV vs lo hi) := by
  unfold cutD cutV
  rw [← r.len]
  exact (r.drop _).take _
theorem ixS : IxR X (r2M X.K E ixD) := by
  intro value slice pins s σ H x y v u Q I rx ry hh hs
  obtain ⟨θ, h, d, e, hr, rd, re, a⟩ := hh
  cases re with
  | int i =>
    have seq : After X.K θ H E (match sqD h d with
      | some xs => (match atI xs i with
        | some x => .ok x h
        | none => .bad)
      | none => .bad) Q → wpAny (model X.prog X.w) X.A (PyProof.Rows.subscriptTail value slice v u) (EP X pins σ Q) X.xe s := by
      intro a
      cases q : sqD h d with
      | none => rw [q] at a; exact False.elim a
      | some xs =>
        rw [q] at a
        cases q2 : atI xs i with
        | none => simp only [q2] at a; exact False.elim a
        | some z =>
          simp only [q2] at a
          obtain ⟨p, vs, rfl, h4, h5⟩ := sqD_ok hr rd q
          obtain ⟨w, h6, h7⟩ := atI_reps h5 q2
          refine ix_seq value slice pins s σ H _ _ v u Q I rx ry ?_ hs
          rcases h4 with h4 | h4
          · exact .inl ⟨p, vs, i, w, rfl, rfl, h4, h6, a.val hr h7⟩
          · exact .inr (.inl ⟨p, vs, i, w, rfl, rfl, h4, h6, a.val hr h7⟩)
    cases rd with
    | str z =>
      have a' : After X.K θ H E (match atI z.cps.toList i with
        | some c => okb (decide (z.length ≤ sizeLine)) (.ok (.str ⟨#[c]⟩) h)
        | none => .bad) Q := a
      cases q : atI z.cps.toList i with
      | none => rw [q] at a'; exact False.elim a'
      | some c =>
        rw [q] at a'
        obtain ⟨k, a'⟩ := After.okb a'
        exact ix_seq value slice pins s σ H _ _ v u Q I rx ry (.inr (.inr ⟨z, i, c, rfl, rfl, of_decide_eq_true k, q, a'.val hr (.str _)⟩)) hs
    | _ => exact seq a
  | _ => cases rd <;> exact False.elim a
theorem slS {m : Bool} : SlR X (rSM X.K E (slD m)) := by
  intro pins s σ H x v vl vu lo hi sl Q I rx hs pl pu hh
  obtain ⟨θ, h, d, hr, rd, a⟩ := hh
  have lsq : ∀ {xs : List D}, lsD h d = some xs → After X.K θ H E (newL m (cutD xs lo hi) h) Q → rSlL X.K x lo hi H Q := by
    intro xs q a
    obtain ⟨p, vs, rfl, h4, h5⟩ := lsD_ok hr rd q
    exact ⟨p, vs, rfl, SqL.of h4, fun r hn => newL_ok hr (cutD_reps h5) a hn⟩
  cases rd with
  | str z =>
    obtain ⟨k, a⟩ := After.okb a
    exact sl_str pins s σ H _ v vl vu lo hi sl Q I rx hs pl pu ⟨z, rfl, of_decide_eq_true k, a.val hr (.str _)⟩
  | @tup xs vs p f rs =>
    refine sl_tupA pins s σ H _ v vl vu lo hi sl Q I rx hs pl pu ⟨p, vs, rfl, f.sq, fun z => ?_, fun _ r hn => newT_ok hr (cutD_reps rs) a hn⟩
    have e : cutD xs lo hi = xs := by
      unfold cutD
      rw [rs.len, z.1, z.2, ← rs.len]
      simp
    have a' : After X.K θ H E (.ok (.tup (cutD xs lo hi)) h) Q := a
    rw [e] at a'
    exact a'.val hr (.tup f rs)
  | @scr xs vs p f rs => exact sl_list pins s σ H _ v vl vu lo hi sl Q I rx hs pl pu ⟨p, vs, rfl, f.sq, fun r hn => newL_ok hr (cutD_reps rs) a hn⟩
  | lst f rs => exact sl_list pins s σ H _ v vl vu lo hi sl Q I rx hs pl pu (lsq rfl a)
  | @ref n p q =>
    have a' : After X.K θ H E (match lsD h (.ref n) with
      | some xs => newL m (cutD xs lo hi) h
      | none => .bad) Q := a
    cases q2 : lsD h (.ref n) with
    | none => rw [q2] at a'; exact False.elim a'
    | some xs =>
      rw [q2] at a'
      exact sl_list pins s σ H _ v vl vu lo hi sl Q I rx hs pl pu (lsq q2 a')
  | _ => exact False.elim a
end
/-! ### xs[i] = v -/
def setD (o i v : D) (h : AH) : R Unit := match o, i with
  | .ref n, .int k => (match asL h[n]? with
    | some xs => (match ixN xs.length k with
      | some j => .ok () (h.set n (.lst (xs.set j v)))
      | none => .bad)
    | none => .bad)
  | _, _ => .bad
def AfterU (K : PySem.W.Frag) (θ : Th) (H : Hp) (E : XW) : R Unit → (Hp → Prop) → Prop
  | .ok _ h', Q => ∀ θ' H', Ext θ H θ' H' → HRep K θ' H' h' → Q H'
  | .exc c fs h', _ => ∀ vs θ' H', Ext θ H θ' H' → HRep K θ' H' h' → Repf K θ' H' fs vs → E c vs H'
  | .bad, _ => False
def rSetM (K : PySem.W.Frag) (E : XW) : TSet := fun o i v H Q => ∃ θ h d e f, HRep K θ H h ∧ Rep K θ H d o ∧ Rep K θ H e i ∧ Rep K θ H f v ∧ AfterU K θ H E (setD d e f h) Q
theorem setS {X : Cx} {E : XW} : PSet X (rSetM X.K E) := by
  intro pins s σ H o i v ov iv u Q I ro ri rv hh
  obtain ⟨θ, h, d, e, f, hr, rd, re, rf, a⟩ := hh
  cases rd with
  | @ref n p hp => cases re with
    | int k =>
      have a' : AfterU X.K θ H E (match asL h[n]? with
        | some xs => (match ixN xs.length k with
          | some j => .ok () (h.set n (.lst (xs.set j f)))
          | none => .bad)
        | none => .bad) Q := a
      cases q : asL h[n]? with
      | none => rw [q] at a'; exact False.elim a'
      | some xs =>
        rw [q] at a'
        cases q2 : ixN xs.length k with
        | none => simp only [q2] at a'; exact False.elim a'
        | some j =>
          simp only [q2] at a'
          obtain ⟨vs, h1, h2⟩ := hr.lst hp (asL_eq q)
          have hm : p ∈ θ.l := List.mem_of_getElem? hp
          refine set_list pins s σ H _ _ _ ov iv u Q I ro ri rv ⟨p, vs, k, j, rfl, rfl, h1, by rw [← h2.len]; exact q2, ?_⟩
          exact a' θ _ (Ext.wrote hm) (hr.wrote hp ⟨_, upd_same, (h2.set rf j).mono (Ext.wrote hm)⟩)
    | _ => exact False.elim a
  | _ => cases re <;> exact False.elim a
/-! ### methods -/
inductive Mt where | join | append | extend | split
def strD : D → Option Str
  | .str x => some x
  | _ => none
def Mt.run : Mt → D → List D → AH → R D
  | .join, .str a, [d], h => (match sqD h d with
    | some xs => (match allM strD xs with
      | some ys => okb (decide ((ys.map (·.length)).sum + ys.length * a.length ≤ 16777216)) (.ok (.str (Txt.join a ys)) h)
      | none => .bad)
    | none => .bad)
  | .append, .ref n, [d], h => (match asL h[n]? with
    | some xs => okb (decide (xs.length < sizeLine)) (.ok .non (h.set n (.lst (xs ++ [d]))))
    | none => .bad)
  | .extend, .ref n, [d], h => (match asL h[n]?, lsD h d with
    | some xs, some ys => okb (decide (xs.length + ys.length ≤ sizeLine)) (.ok .non (h.set n (.lst (xs ++ ys))))
    | _, _ => .bad)
  | .split, .str a, [.str b], h => okb (!(b.length == 0) && decide (a.length + 2 ≤ sizeLine)) (.ok (.lst ((Txt.split a b).map .str)) h)
  | _, _, _, _ => .bad
theorem strs_rep {K : PySem.W.Frag} {θ : Th} {H : Hp} : ∀ xs : List Str, Reps K θ H (xs.map .str) (xs.map V.str)
  | [] => .nil
  | x :: xs => .cons (.str x) (strs_rep xs)
theorem strD_ok {K : PySem.W.Frag} {θ : Th} {H : Hp} : ∀ {ds : List D} {vs : List V} {xs : List Str}, Reps K θ H ds vs → allM strD ds = some xs → vs = xs.map V.str
  | [], _, _, .nil, e => by cases (show some [] = some _ from e); rfl
  | d :: ds, _, _, .cons r t, e => by
    obtain ⟨y, zs, rfl, e1, e2⟩ := allM_cons e
    cases r <;> cases e1
    rw [strD_ok t e2]
    rfl
section
variable {X : Cx} {E : XW}
theorem mtS_join : MtR X "str.join" (rmM X.K E Mt.join.run) := by
  intro pins s σ H x xs v us Q I rx rxs hh
  obtain ⟨θ, h, d, ds, hr, rd, rs, a⟩ := hh
  cases rd with
  | str z =>
    cases ds with
    | nil => exact False.elim a
    | cons e es => cases es with
      | cons _ _ => exact False.elim a
      | nil =>
        obtain ⟨w, rfl, re⟩ := rs.one
        have a' : After X.K θ H E (match sqD h e with
          | some xs => (match allM strD xs with
            | some ys => okb (decide ((ys.map (·.length)).sum + ys.length * z.length ≤ 16777216)) (.ok (.str (Txt.join z ys)) h)
            | none => .bad)
          | none => .bad) Q := a
        cases q : sqD h e with
        | none => rw [q] at a'; exact False.elim a'
        | some ys =>
          rw [q] at a'
          cases q2 : allM strD ys with
          | none => simp only [q2] at a'; exact False.elim a'
          | some zs =>
            simp only [q2] at a'
            obtain ⟨k, a'⟩ := After.okb a'
            obtain ⟨p, vs, rfl, h4, h5⟩ := sqD_ok hr re q
            have e3 := strD_ok h5 q2
            subst e3
            exact mt_join pins s σ H _ _ v us Q I rx rxs ⟨z, p, zs, rfl, rfl, h4, of_decide_eq_true k, a'.val hr (.str _)⟩
  | _ => exact False.elim a
theorem mtS_split : MtR X "str.split" (rmM X.K E Mt.split.run) := by
  intro pins s σ H x xs v us Q I rx rxs hh
  obtain ⟨θ, h, d, ds, hr, rd, rs, a⟩ := hh
  cases rd with
  | str z =>
    cases rs with
    | nil => exact False.elim a
    | cons r1 r2 => cases r2 with
      | cons _ _ => cases r1 <;> exact False.elim a
      | nil => cases r1 with
        | str y =>
          obtain ⟨c, a⟩ := After.okb a
          have c := Bool.and_eq_true_iff.mp c
          exact mt_split pins s σ H _ _ v us Q I rx rxs ⟨z, y, rfl, rfl, (Bool.not_eq_true' _).mp c.1, of_decide_eq_true c.2, fun p hp => newL_ok (m := false) hr (strs_rep _) a hp⟩
        | _ => exact False.elim a
  | _ => exact False.elim a
theorem mtS_append : MtR X "list.append" (rmM X.K E Mt.append.run) := by
  intro pins s σ H x xs v us Q I rx rxs hh
  obtain ⟨θ, h, d, ds, hr, rd, rs, a⟩ := hh
  cases rd with
  | @ref n p hp =>
    cases ds with
    | nil => exact False.elim a
    | cons e es => cases es with
      | cons _ _ => exact False.elim a
      | nil =>
        obtain ⟨w, rfl, re⟩ := rs.one
        have a' : After X.K θ H E (match asL h[n]? with
          | some xs => okb (decide (xs.length < sizeLine)) (.ok .non (h.set n (.lst (xs ++ [e]))))
          | none => .bad) Q := a
        cases q : asL h[n]? with
        | none => rw [q] at a'; exact False.elim a'
        | some ys =>
          rw [q] at a'
          obtain ⟨k, a'⟩ := After.okb a'
          obtain ⟨vs, h1, h2⟩ := hr.lst hp (asL_eq q)
          have hm : p ∈ θ.l := List.mem_of_getElem? hp
          refine mt_append pins s σ H _ _ v us Q I rx rxs ⟨p, vs, w, rfl, rfl, h1, by rw [← h2.len]; exact of_decide_eq_true k, ?_⟩
          exact a' .non θ _ (Ext.wrote hm) (hr.wrote hp ⟨_, upd_same, (h2.snoc re).mono (Ext.wrote hm)⟩) .non
  | _ => exact False.elim a
theorem mtS_extend : MtR X "list.extend" (rmM X.K E Mt.extend.run) := by
  intro pins s σ H x xs v us Q I rx rxs hh
  obtain ⟨θ, h, d, ds, hr, rd, rs, a⟩ := hh
  cases rd with
  | @ref n p hp =>
    cases ds with
    | nil => exact False.elim a
    | cons e es => cases es with
      | cons _ _ => exact False.elim a
      | nil =>
        obtain ⟨w, rfl, re⟩ := rs.one
        have a' : After X.K θ H E (match asL h[n]?, lsD h e with
          | some xs, some ys => okb (decide (xs.length + ys.length ≤ sizeLine)) (.ok .non (h.set n (.lst (xs ++ ys))))
          | _, _ => .bad) Q := a
        cases q : asL h[n]? with
        | none => rw [q] at a'; exact False.elim a'
        | some ys =>
          cases q2 : lsD h e with
          | none => rw [q, q2] at a'; exact False.elim a'
          | some zs =>
            rw [q, q2] at a'
            obtain ⟨k, a'⟩ := After.okb a'
            obtain ⟨vs, h1, h2⟩ := hr.lst hp (asL_eq q)
            obtain ⟨b, ws, rfl, h3, h4⟩ := lsD_ok hr re q2
            have hm : p ∈ θ.l := List.mem_of_getElem? hp
            refine mt_extend pins s σ H _ _ v us Q I rx rxs ⟨p, b, vs, ws, rfl, rfl, h1, h3, by rw [← h2.len, ← h4.len]; exact of_decide_eq_true k, ?_⟩
            exact a' .non θ _ (Ext.wrote hm) (hr.wrote hp ⟨_, upd_same, (h2.append h4).mono (Ext.wrote hm)⟩) .non
  | _ => exact False.elim a
end
end Mp

set_option Elab.async false
set_option linter.all false
set_option autoImplicit false
set_option maxRecDepth 100000
set_option maxHeartbeats 4000000
namespace Mp
open PySem PySem.Spec L2
/-! ### t[::-1] -/
theorem rev_adj (n : Nat) : Builtin.Slice.sliceAdjust none none (-1) (n : Int) = ((n : Int) - 1, -1) := rfl
theorem rev_places (n : Nat) : Builtin.Slice.slicePlaces ((n : Int) - 1) (-1) (-1) = n := by
  unfold Builtin.Slice.slicePlaces
  rw [if_neg (by omega)]
  split
  · rw [show -(-1 : Int) = 1 by omega, Int.ediv_one]
    omega
  · omega
theorem rev_pick (xs : Array Value) : ((List.range xs.size).filterMap fun (k : Nat) => xs[(((xs.size : Int) - 1) + (k : Int) * (-1)).toNat]?).toArray = xs.toList.reverse.toArray := by
  congr 1
  apply List.ext_getElem?
  intro i
  have e : (List.range xs.size).filterMap (fun (k : Nat) => xs[(((xs.size : Int) - 1) + (k : Int) * (-1)).toNat]?) = (List.range xs.size).map (fun (k : Nat) => xs.toList[xs.size - 1 - k]?.getD .none) := by
    have gen : ∀ l : List Nat, (∀ k ∈ l, k < xs.size) → l.filterMap (fun (k : Nat) => xs[(((xs.size : Int) - 1) + (k : Int) * (-1)).toNat]?) = l.map (fun (k : Nat) => xs.toList[xs.size - 1 - k]?.getD .none) := by
      intro l hl
      induction l with
      | nil => rfl
      | cons k l ih =>
        have hk := hl k (List.mem_cons_self ..)
        have e1 : (((xs.size : Int) - 1) + (k : Int) * (-1)).toNat = xs.size - 1 - k := by omega
        have lt : xs.size - 1 - k < xs.size := by omega
        rw [List.filterMap_cons, List.map_cons, ih fun z hz => hl z (List.mem_cons_of_mem _ hz), e1]
        simp [lt]
    exact gen _ fun k hk => List.mem_range.mp hk
  rw [e, List.getElem?_map]
  by_cases hi : i < xs.size
  · rw [List.getElem?_range hi, List.getElem?_reverse (by simpa using hi)]
    have l : xs.size - 1 - i < xs.size := by omega
    simp [l]
  · rw [List.getElem?_eq_none (by simpa using hi), List.getElem?_eq_none (by simpa using hi)]
    rfl
section
variable {prog : Program} {w : World} {A : Around} {E : Value → Shared → Prop} {s : Shared}
theorem getRev {t sl : Addr} {items : Array Value} {vl vu vs : Value} {Q : Value → Shared → Prop} (ht : PyProof.Rows.IsTup s.heap t items) (hs : s.heap.IsSliceOf sl vl vu vs) (pl : IsPart vl none) (pu : IsPart vu none) (ps : IsPart vs (some (-1)))
    (h : Q (.ref s.heap.objs.size) { s with heap := s.heap.push { cls := .type "tuple", data := .seq items.toList.reverse.toArray } }) (hz : items.size ≤ sizeLine) : wpAny (model prog w) A (getItem (.ref t) (.ref sl)) Q E s := by
  have hsz : sizeOk (.seq items.toList.reverse.toArray) := by
    show items.toList.reverse.toArray.size ≤ sizeLine
    simpa using hz
  obtain ⟨os, hos, hcs, hds⟩ := id hs
  have hT : s.TypeIs (.ref sl) "slice" := ⟨os, hos, hcs⟩
  unfold getItem
  refine wpAny_holding ?_
  refine wpAny_bind (wpAny_sequenceKey ht.typeIs (by decide) ?_)
  refine wpAny_bind (wpAny_callSpecial?_slot (name := Str.ofString "__getitem__") ht.typeIs PyProof.Rows.slot_tuple_getitem
    (wpAny_call_entry PyProof.Rows.slot_tuple_getitem ht.typeIs PyProof.Rows.entry_tuple_getitem ?_ (PyProof.Rows.args_tuple_getitem _ _)))
  show wpAny _ _ (Builtin.Tuple.tupleItemsOf (.ref t) >>= _) _ _ s
  refine wpAny_bind (PyProof.Rows.tupleItemsOf_ ht ?_)
  refine wpAny_bind (wpAny_typeOf hT ?_)
  rw [if_pos (by decide)]
  refine wpAny_bind ?_
  unfold Builtin.Slice.sliceApplied Builtin.Slice.sliceFields
  refine wpAny_bind (wpAny_bind (wpAny_field hos hds (x := vl) rfl (wpAny_bind (wpAny_field hos hds (x := vu) rfl (wpAny_bind (wpAny_field hos hds (x := vs) rfl (wpAny_pure ?_)))))))
  refine wpAny_bind (HT.slicePart_ ps ?_)
  show wpAny _ _ (if ((-1 : Int) == 0) = true then _ else _) _ _ s
  rw [if_neg (by decide)]
  refine wpAny_bind (HT.slicePart_ pl (wpAny_bind (HT.slicePart_ pu (wpAny_bind (wpAny_pure ?_)))))
  refine wpAny_pure ?_
  show wpAny _ _ (if (((items.size : Int) - 1) == 0 && (-1 : Int) == 1 && _ == items.size) = true then _ else _) _ _ s
  rw [if_neg (by simp)]
  show wpAny _ _ (Builtin.Tuple.tupleExact ((List.range (Builtin.Slice.slicePlaces ((items.size : Int) - 1) (-1) (-1))).filterMap fun (k : Nat) => items[(((items.size : Int) - 1) + (k : Int) * (-1)).toNat]?).toArray >>= _) _ _ s
  rw [rev_places, rev_pick]
  exact wpAny_bind (m := Builtin.Tuple.tupleExact _) (wpAny_newObj_type (wpAny_pure ⟨_, rfl, wpAny_pure h⟩) hsz)
end
section
variable {X : Cx}
/-- e[::-1], a list or a tuple -/
def tRev (K : PySem.W.Frag) (te : TE) : TE := fun σ H Q => te σ H fun x H1 => ∃ a xs, x = .ref a ∧ ((SqL K H1 a xs ∧ ∀ p, H1 p = none → Q (.ref p) (upd H1 p (.lst xs.reverse))) ∨ (SqT K H1 a xs ∧ ∀ p, H1 p = none → Q (.ref p) (upd H1 p (.tup xs.reverse))))
theorem pe_rev {e : Expr} {te : TE} {k : Nat} {p1 p2 p3 pos : Pos} (he : PE X e te) : PE X (.Subscript e (.Slice none none (some (.UnaryOp .USub (.Constant (.int 1) k p1) p2)) p3) pos) (tRev X.K te) := by
  refine ⟨fun pins s σ H Q I h => ?_⟩
  refine PyProof.Rows.Subscript_ (thn (he.run pins s σ H _ I h) fun v s1 ⟨x, H1, I1, r1, q1⟩ => ?_)
  obtain ⟨a, xs, rfl, hx⟩ := q1
  cases r1
  have step : PO X (some (.UnaryOp .USub (.Constant (.int 1) k p1) p2)) (tPart (tUn (rU fun i => .int (-i)) (tC (.int 1)))) := po_some (pe_un un_neg pe_int)
  refine wpAny_Slice (thn (po_none.run pins s1 σ H1 (fun o H2 => o = none ∧ H2 = H1) I1 ⟨rfl, rfl⟩) fun vl s2 ⟨l, H2, I2, pl, el, e2⟩ => ?_)
  subst el e2
  refine thn (po_none.run pins s2 σ H2 (fun o H3 => o = none ∧ H3 = H2) I2 ⟨rfl, rfl⟩) fun vu s3 ⟨u, H3, I3, pu, eu, e3⟩ => ?_
  subst eu e3
  refine thn (step.run pins s3 σ H3 (fun o H4 => o = some (-1) ∧ H4 = H3) I3 ⟨1, rfl, -1, rfl, rfl, rfl⟩) fun vs s4 ⟨o, H4, I4, ps, eo, e4⟩ => ?_
  subst eo e4
  have I5 : Inv X pins σ H4 { s4 with heap := s4.heap.push { cls := .type "slice", data := .fields #[vl, vu, vs] } } := I4.kept (t' := s4.toks) fun b ob q => Heap.get?_push_of_some _ q
  show wpAny (model X.prog X.w) X.A (PyProof.Rows.subscriptTail e (.Slice none none (some (.UnaryOp .USub (.Constant (.int 1) k p1) p2)) p3) (.ref a) (.ref s4.heap.objs.size)) (EP X pins σ Q) X.xe { s4 with heap := s4.heap.push { cls := .type "slice", data := .fields #[vl, vu, vs] } }
  rcases hx with ⟨hx, q⟩ | ⟨hx, q⟩
  · obtain ⟨its, r, ht, hz⟩ := I5.list hx
    have len := r.length
    refine PyProof.Rows.tail_any (ops := [.ref a, .ref s4.heap.objs.size]) ht.isList.typeIs (PySem.slot_list_getitem.lookup) ?_ (by with_unfolding_all rfl)
    refine wpAny_getItem_list_slice ht.isList (Heap.IsSliceOf.new _ vl vu vs) pl pu ps (by decide) ?_ (by rw [List.size_toArray]; omega)
    rw [PySem.W.krv_pick]
    refine ⟨.ref _, _, I5.laid (t' := s4.toks) (o := .lst xs.reverse) (fun b ob q => Heap.get?_push_of_some _ q) (Nat.le_refl _) ?_, rfl, q _ (I5.hok.fresh (Nat.le_refl _))⟩
    exact ⟨by rw [List.length_reverse]; exact hz, _, 0, r.reverse, Heap.get?_push_size _ rfl⟩
  · obtain ⟨its, r, ht, hz⟩ := I5.tuple hx
    have len := r.length
    refine PyProof.Rows.tail_any (ops := [.ref a, .ref s4.heap.objs.size]) ht.typeIs (PyProof.Rows.slot_tuple_getitem.lookup) ?_ (by with_unfolding_all rfl)
    refine getRev ht (Heap.IsSliceOf.new _ vl vu vs) pl pu ps ?_ (by rw [List.size_toArray]; omega)
    refine ⟨.ref _, _, I5.laid (t' := s4.toks) (o := .tup xs.reverse) (fun b ob q => Heap.get?_push_of_some _ q) (Nat.le_refl _) ?_, rfl, q _ (I5.hok.fresh (Nat.le_refl _))⟩
    exact ⟨by rw [List.length_reverse]; exact hz, _, by simpa using r.reverse, ⟨_, Heap.get?_push_size _ rfl, rfl, _, rfl⟩⟩
end
end Mp

set_option Elab.async false
set_option linter.all false
set_option autoImplicit false
set_option maxRecDepth 100000
set_option maxHeartbeats 4000000
namespace Mp
open PySem PySem.Spec L2
/-! ### set(xs) of a list of ints -/
/-- an empty set, new -/
def set0 (w : World) : Obj := { cls := .type "set", dict := none, data := .set #[] 0 (.fresh 0 0 (!w.params.followText "set-order")) }
/-- what set(xs) leaves -/
def SetLeft (w : World) (ns : List Int) (s s2 : Shared) : Prop := ∃ (h' : Heap) (tk c : Nat), s2 = { s with heap := h', toks := tk } ∧ SetR w h' s.heap.objs.size (fun j => decide (j ∈ ns)) c ∧ c ≤ ns.length ∧ ∀ b o, s.heap.get? b = some o → h'.get? b = some o
section
variable {P : Program} {w : World} {A : Around} {E : Value → Shared → Prop} {s : Shared}
theorem set_fill {l : Addr} {xs : Array Value} {ns : List Int} (hh : A.handled = none) (hl : s.heap.IsList l xs) (hx : PyProof.Rows.IntsAre xs.toList ns) (hb : ns.length + 1 < scanBound) :
    wpAny (model P w) A.in1 (Builtin.«set.__init__» ⟨[.ref s.heap.objs.size, .ref l], []⟩) (fun r s2 => r = .done (.ret .none) ∧ SetLeft w ns s s2) E { s with heap := s.heap.push (set0 w) } := by
  have nx : xs.size = ns.length := by
    have q := PyProof.Rows.IntsAre.length hx
    rwa [Array.length_toList] at q
  have gS : (s.heap.push (set0 w)).get? s.heap.objs.size = some (set0 w) := Heap.get?_push_size _ rfl
  have tS : Shared.TypeIs { s with heap := s.heap.push (set0 w) } (.ref s.heap.objs.size) "set" := ⟨_, gS, rfl⟩
  obtain ⟨⟨oc, od, dt, sl⟩, h1, h2, m, h3⟩ := hl
  dsimp only at h2 h3
  subst h2 h3
  have gL : (s.heap.push (set0 w)).get? l = some { cls := .type "list", dict := od, data := .seq xs m, slots := sl } := Heap.get?_push_of_some _ h1
  have isL : (s.heap.push (set0 w)).IsList l xs := ⟨_, gL, rfl, m, rfl⟩
  have f1 := F.sub_list_set
  have f2 := F.sub_list_frozenset
  have f3 : (Value.type "list" == Value.type "dict") = false := by decide
  unfold Builtin.«set.__init__» noKeywords Builtin.Frozenset.updateFrom
  generalize eI : pyIter = J
  wp_walk
  subst eI
  refine wpAny_pyIter_list isL (wpAny_bind (wpAny_runValue ?_))
  have lS : l < s.heap.objs.size := Heap.lt_size h1
  have z1 : (s.heap.push (set0 w)).objs.size = s.heap.objs.size + 1 := Heap.size_push ..
  have lI : l ≠ (s.heap.push (set0 w)).objs.size := by rw [z1]; exact Nat.ne_of_lt (Nat.lt_succ_of_lt lS)
  have sf : s.heap.objs.size ∉ [(s.heap.push (set0 w)).objs.size, l] := by
    simp only [z1, List.mem_cons, List.not_mem_nil, or_false, not_or]
    exact ⟨Nat.ne_of_lt (Nat.lt_succ_self _), Nat.ne_of_gt lS⟩
  have val : ∀ (i : Nat) (v : Value), xs[i]? = some v → ∃ k t, ns[i]? = some k ∧ v = .int k t := fun i v hv => by
    have li : i < ns.length := by
      rw [← nx]
      exact (Array.getElem?_eq_some_iff.mp hv).1
    obtain ⟨t, e⟩ := PyProof.Rows.IntsAre.int_at hx i v (by rw [Array.getElem?_toList, hv])
    refine ⟨ns[i], t, List.getElem?_eq_getElem li, ?_⟩
    rw [e, List.getD_eq_getElem?_getD, List.getElem?_eq_getElem li]
    rfl
  have h3' : A.in1.in1.handled = none := by simp [hh]
  refine set_update_ints (Walks.list h3' _ l lI xs).toS s.heap.objs.size sf ns nx hb val (xs.size - 0) 0 _ (by omega) (Nat.zero_le _) ?st ?h0 ?hR
  case st => exact ⟨⟨_, Heap.get?_push_size _ rfl, rfl, rfl⟩, isL.push _⟩
  case h0 =>
    refine ⟨0, Nat.le_refl 0, setR_new_at ?_⟩
    exact Heap.get?_push_of_some _ gS
  intro s' c' hm hc' hS'
  obtain ⟨h', g', d', tk', os'⟩ := s'
  obtain rfl : g' = s.gens := hm.gens
  obtain rfl : d' = s.drawn := hm.drawn
  obtain rfl : os' = s.os := hm.os
  show wpAny _ _ _ _ _ _
  refine wpAny_pure ?_
  show wpAny _ _ (ret Value.none) _ _ _
  refine wpAny_pure ⟨rfl, h', tk', c', rfl, hS', by rw [← nx]; exact hc', fun b o e => ?_⟩
  have bl : b < s.heap.objs.size := Heap.lt_size e
  refine hm.heap b o ?_ (Heap.get?_push_of_some _ (Heap.get?_push_of_some _ e))
  simp only [z1, List.mem_cons, List.not_mem_nil, or_false, not_or]
  exact ⟨Nat.ne_of_lt bl, Nat.ne_of_lt (Nat.lt_succ_of_lt bl)⟩
theorem call_set_li {l : Addr} {xs : Array Value} {ns : List Int} {Q : Value → Shared → Prop} (hh : A.handled = none) (hl : s.heap.IsList l xs) (hx : PyProof.Rows.IntsAre xs.toList ns) (hb : ns.length + 1 < scanBound)
    (h : ∀ s2, SetLeft w ns s s2 → Q (.ref s.heap.objs.size) s2) : wpAny (model P w) A (call (.type "set") [.ref l]) Q E s := by
  obtain ⟨c0, tl0, mro0⟩ := F.called_set.mro
  have made0 := F.called_set.made
  have sub0 := F.called_set.sub
  refine wpAny_call (codeAny_of_tree ?_)
  show wpAny _ _ (callAny (.type "set") _) _ _ _
  refine wpAny_pure ⟨Code.quiet_builtin _ (by decide +kernel), codeAny_builtin F.entry_type_call ?_⟩
  rw [Around.under_plain (weight_type_call_type "set" [.ref l] []) rfl]
  have nt := F.called_set.notType
  have cc := F.called_set.canCreate
  have tc := F.typeCall_set_1 (.ref l)
  repeat (any_goals (first | assumption | wp_step))
  refine codeAny_mono (code_set_led1 (.ref l) (E := E) (Q₁ := fun z s1 => z = .ref s.heap.objs.size ∧ s1 = { s with heap := s.heap.push (set0 w) }) ⟨rfl, rfl⟩) fun r s1 hr => ?_
  cases r with
  | error e => exact hr
  | ok fl => cases fl with
    | ret z =>
      obtain ⟨rfl, rfl⟩ := hr
      have gS : (s.heap.push (set0 w)).get? s.heap.objs.size = some (set0 w) := Heap.get?_push_size _ rfl
      have tS : Shared.TypeIs { s with heap := s.heap.push (set0 w) } (.ref s.heap.objs.size) "set" := ⟨_, gS, rfl⟩
      have il := F.called_set.init.lookup
      have ib := F.called_set.init.bind (.ref s.heap.objs.size)
      repeat (any_goals (first | assumption | wp_step))
      refine codeAny_mono (codeAny_call_builtin (R := wants (fun r s2 => r = .none ∧ SetLeft w ns s s2) E) F.called_set.init.plain F.entry_set_init (check_set_init_1 tS (wpAny_mono (set_fill (A := A.in1) hh hl hx hb) (fun f s2 hf => by
        obtain ⟨rfl, hf⟩ := hf
        exact ⟨rfl, hf⟩) fun _ _ z => z))) fun r2 s2 hr2 => ?_
      cases r2 with
      | error e => exact hr2
      | ok f2 => cases f2 with
        | ret r =>
          obtain ⟨rfl, hq⟩ := hr2
          repeat (any_goals (first | assumption | wp_step))
          exact h _ hq
        | _ => exact hr2.elim
    | _ => exact hr.elim
end
end Mp

set_option Elab.async false
set_option linter.all false
set_option autoImplicit false
set_option maxRecDepth 100000
set_option maxHeartbeats 4000000
namespace Mp
open PySem PySem.Spec L2
/-! ### sorting ints -/
def insU (x : Int) : List Int → List Int
  | [] => [x]
  | y :: ys => if x < y then x :: y :: ys else if x = y then y :: ys else y :: insU x ys
/-- each once, ascending -/
def setI : List Int → List Int
  | [] => []
  | x :: xs => insU x (setI xs)
def insI (x : Int) : List Int → List Int
  | [] => [x]
  | y :: ys => if x ≤ y then x :: y :: ys else y :: insI x ys
/-- ascending -/
def srtI : List Int → List Int
  | [] => []
  | x :: xs => insI x (srtI xs)
theorem insU_mem {x z : Int} : ∀ {l : List Int}, z ∈ insU x l ↔ z = x ∨ z ∈ l
  | [] => by simp [insU]
  | y :: ys => by
    unfold insU
    split
    · simp
    · split
      · rename_i e; subst e; simp
      · simp only [List.mem_cons, insU_mem]
        constructor
        · rintro (h | h | h) <;> simp [h]
        · rintro (h | h | h) <;> simp [h]
theorem insU_rise {x : Int} : ∀ {l : List Int}, l.Pairwise (· < ·) → (insU x l).Pairwise (· < ·)
  | [], _ => by simp [insU]
  | y :: ys, h => by
    obtain ⟨h1, h2⟩ := List.pairwise_cons.mp h
    unfold insU
    split
    · rename_i lt
      refine List.pairwise_cons.mpr ⟨fun z hz => ?_, h⟩
      rcases List.mem_cons.mp hz with rfl | hz
      · exact lt
      · exact Int.lt_trans lt (h1 z hz)
    · split
      · exact h
      · refine List.pairwise_cons.mpr ⟨fun z hz => ?_, insU_rise h2⟩
        rcases insU_mem.mp hz with rfl | hz
        · omega
        · exact h1 z hz
theorem setI_mem {z : Int} : ∀ {l : List Int}, z ∈ setI l ↔ z ∈ l
  | [] => by simp [setI]
  | y :: ys => by
    unfold setI
    rw [insU_mem, setI_mem]
    simp
theorem setI_rise : ∀ {l : List Int}, (setI l).Pairwise (· < ·)
  | [] => List.Pairwise.nil
  | y :: ys => insU_rise setI_rise
theorem rise_uniq : ∀ {l m : List Int}, l.Pairwise (· < ·) → m.Pairwise (· < ·) → (∀ z, z ∈ l ↔ z ∈ m) → l = m
  | [], [], _, _, _ => rfl
  | [], b :: m, _, _, h => by have := (h b).mpr (by simp); simp at this
  | a :: l, [], _, _, h => by have := (h a).mp (by simp); simp at this
  | a :: l, b :: m, hl, hm, h => by
    obtain ⟨l1, l2⟩ := List.pairwise_cons.mp hl
    obtain ⟨m1, m2⟩ := List.pairwise_cons.mp hm
    have e : a = b := by
      rcases List.mem_cons.mp ((h a).mp (List.mem_cons_self ..)) with q | q
      · exact q
      · rcases List.mem_cons.mp ((h b).mpr (List.mem_cons_self ..)) with r | r
        · exact r.symm
        · have := l1 b r
          have := m1 a q
          omega
    subst e
    rw [rise_uniq l2 m2 fun z => ?_]
    constructor
    · intro hz
      rcases List.mem_cons.mp ((h z).mp (List.mem_cons_of_mem _ hz)) with q | q
      · have := l1 z hz; omega
      · exact q
    · intro hz
      rcases List.mem_cons.mp ((h z).mpr (List.mem_cons_of_mem _ hz)) with q | q
      · have := m1 z hz; omega
      · exact q
theorem insI_perm {x : Int} : ∀ {l : List Int}, (insI x l).Perm (x :: l)
  | [] => .refl _
  | y :: ys => by
    unfold insI
    split
    · exact .refl _
    · exact (insI_perm.cons y).trans (.swap x y ys)
theorem srtI_perm : ∀ {l : List Int}, (srtI l).Perm l
  | [] => .refl _
  | y :: ys => insI_perm.trans (srtI_perm.cons y)
theorem insI_rise {x : Int} : ∀ {l : List Int}, l.Pairwise (· ≤ ·) → (insI x l).Pairwise (· ≤ ·)
  | [], _ => by simp [insI]
  | y :: ys, h => by
    obtain ⟨h1, h2⟩ := List.pairwise_cons.mp h
    unfold insI
    split
    · rename_i le
      refine List.pairwise_cons.mpr ⟨fun z hz => ?_, h⟩
      rcases List.mem_cons.mp hz with rfl | hz
      · exact le
      · exact Int.le_trans le (h1 z hz)
    · refine List.pairwise_cons.mpr ⟨fun z hz => ?_, insI_rise h2⟩
      rcases List.mem_cons.mp (insI_perm.mem_iff.mp hz) with rfl | hz
      · omega
      · exact h1 z hz
theorem srtI_rise : ∀ {l : List Int}, (srtI l).Pairwise (· ≤ ·)
  | [] => List.Pairwise.nil
  | y :: ys => insI_rise srtI_rise
theorem srt_uniq : ∀ {l m : List Int}, l.Pairwise (· ≤ ·) → m.Pairwise (· ≤ ·) → l.Perm m → l = m
  | [], m, _, _, h => (List.nil_perm.mp h).symm
  | a :: l, [], _, _, h => by have := h.length_eq; simp at this
  | a :: l, b :: m, hl, hm, h => by
    obtain ⟨l1, l2⟩ := List.pairwise_cons.mp hl
    obtain ⟨m1, m2⟩ := List.pairwise_cons.mp hm
    have e : a = b := by
      rcases List.mem_cons.mp (h.mem_iff.mp (List.mem_cons_self ..)) with q | q
      · exact q
      · rcases List.mem_cons.mp (h.mem_iff.mpr (List.mem_cons_self ..)) with r | r
        · exact r.symm
        · have := l1 b r
          have := m1 a q
          omega
    subst e
    rw [srt_uniq l2 m2 ((List.perm_cons a).mp h)]
/-! ### on data -/
def intO : D → Option Int
  | .int i => some i
  | _ => none
def srtD (m : Bool) (ds : List D) (h : AH) : R D := match ds with
  | [d] => (match lsD h d with
    | some xs => (match allM intO xs with
      | some ns => newL m ((srtI ns).map .int) h
      | none => .bad)
    | none => .bad)
  | _ => .bad
/-- sorted(set(xs)) -/
def srsD (m : Bool) (d : D) (h : AH) : R D := match lsD h d with
  | some xs => (match allM intO xs with
    | some ns => okb (decide (ns.length < 64)) (newL m ((setI ns).map .int) h)
    | none => .bad)
  | none => .bad
theorem intO_ok {K : PySem.W.Frag} {θ : Th} {H : Hp} : ∀ {ds : List D} {vs : List V} {ns : List Int}, Reps K θ H ds vs → allM intO ds = some ns → vs = ns.map V.int
  | [], _, _, .nil, e => by cases (show some [] = some _ from e); rfl
  | d :: ds, _, _, .cons r t, e => by
    obtain ⟨y, zs, rfl, e1, e2⟩ := allM_cons e
    cases r <;> cases e1
    rw [intO_ok t e2]
    rfl
theorem ints_reps {K : PySem.W.Frag} {θ : Th} {H : Hp} : ∀ ns : List Int, Reps K θ H (ns.map .int) (ns.map V.int)
  | [] => .nil
  | n :: ns => .cons (.int n) (ints_reps ns)
section
variable {X : Cx} {E : XW}
theorem callS_sorted {m : Bool} : CallR X (.builtin "sorted") (rLM X.K E (srtD m)) := by
  intro pins s σ H xs us Q I r hh
  obtain ⟨θ, h, ds, hr, rs, a⟩ := hh
  unfold srtD at a
  split at a
  · rename_i d
    obtain ⟨v, rfl, rd⟩ := rs.one
    cases q : lsD h d with
    | none => simp only [q] at a; exact False.elim a
    | some ys =>
      cases q2 : allM intO ys with
      | none => simp only [q, q2] at a; exact False.elim a
      | some ns =>
        simp only [q, q2] at a
        obtain ⟨p, vs, rfl, h4, h5⟩ := lsD_ok hr rd q
        have e := intO_ok h5 q2
        subst e
        refine cr_sortedI pins s σ H _ us Q I r ⟨p, ns, rfl, SqL.of h4, fun ns' l pm ri hl => ?_⟩
        have e : ns' = srtI ns := srt_uniq ri srtI_rise (pm.trans srtI_perm.symm)
        subst e
        exact newL_ok hr (ints_reps _) a hl
  · exact False.elim a
def rSetLi (K : PySem.W.Frag) (w : World) : List V → Hp → VK → Prop := fun xs H Q => ∃ (l : Addr) (ns : List Int), xs = [V.ref l] ∧ SqL K H l (ns.map V.int) ∧ ns.length < 64 ∧ ∀ p c, H p = none → c ≤ ns.length → Q (.ref p) (upd H p (SetO w p (fun j => decide (j ∈ ns)) c))
theorem cr_setLi (hc : X.calm = true) : CallR X (.type "set") (rSetLi X.K X.w) := by
  intro pins s σ H xs us Q I r h
  obtain ⟨l, ns, rfl, hs, hn, q⟩ := h
  obtain ⟨its, rv, hl, hz⟩ := I.list hs
  rw [Vals.ref1 r]
  refine call_set_li (I.ok.hd hc) hl.isList (by simpa using rv.ints) (Nat.lt_of_lt_of_le (show ns.length + 1 < 65 by omega) (by decide)) fun s2 hs2 => ?_
  obtain ⟨h', tk, c, rfl, hS, hc', hk⟩ := hs2
  exact ⟨.ref _, upd H s.heap.objs.size (SetO X.w s.heap.objs.size (fun j => decide (j ∈ ns)) c), I.laid (t' := tk) hk (Nat.le_refl _) (setO_new hS), rfl, q _ c (I.hok.fresh (Nat.le_refl _)) hc'⟩
theorem se_srs (hc : X.calm = true) {m : Bool} {e : Expr} {p1 p2 p3 p4 : Pos} {mi : Ev → AH → R D} (hg : Gl X "sorted") (hm : X.mg "sorted" = none) (hg2 : Gl X "set") (hm2 : X.mg "set" = none) (hs : starEach [e] X.env = [(false, eval e X.env)]) (he : PE X e (tM X.K E mi)) :
    PE X (.Call (.Name "sorted" p1) [.Call (.Name "set" p2) [e] [] p3] [] p4) (tM X.K E fun ρ h => (mi ρ h).bind fun d h1 => srsD m d h1) := by
  have pa : PA X [e] (tML X.K E fun ρ h => (mi ρ h).bind fun d h1 => .ok [d] h1) := by
    refine PA.wk (pa_cons he pa_nil hs) fun σ H Q hq => ?_
    obtain ⟨θ, ρ, h, en, hr, a⟩ := hq
    refine seqEL en hr a fun d h1 v θ1 H1 e1 x1 en1 hr1 r1 a1 => ?_
    exact a1 [v] θ1 H1 Ext.refl hr1 (.cons r1 .nil)
  have ps : PE X (.Call (.Name "set" p2) [e] [] p3) (tCB (rSetLi X.K X.w) (tML X.K E fun ρ h => (mi ρ h).bind fun d h1 => .ok [d] h1)) := pe_callTy (cr_setLi hc) hg2 hm2 (by decide +kernel) pa (by decide) (by decide) hs rfl
  refine PE.wk (pe_callB (cr_sortedSet hc) hg hm (by decide +kernel) (pa_cons ps pa_nil rfl) (by decide) (by decide) rfl rfl) fun σ H Q hq => ?_
  obtain ⟨θ, ρ, h, en, hr, a⟩ := hq
  show tML X.K E (fun ρ h => (mi ρ h).bind fun d h1 => .ok [d] h1) σ H _
  refine ⟨θ, ρ, h, en, hr, ?_⟩
  cases q : mi ρ h with
  | bad => simp only [q, R.bind_bad] at a ⊢; exact a
  | exc c fs h' => simp only [q, R.bind_exc] at a ⊢; exact a
  | ok d h1 =>
    simp only [q, R.bind_ok] at a ⊢
    intro vs θ1 H1 x1 hr1 rs
    obtain ⟨v, rfl, rd⟩ := rs.one
    have a1 := After.ext a x1
    unfold srsD at a1
    cases q1 : lsD h1 d with
    | none => rw [q1] at a1; exact False.elim a1
    | some ys =>
      rw [q1] at a1
      cases q2 : allM intO ys with
      | none => simp only [q2] at a1; exact False.elim a1
      | some ns =>
        simp only [q2] at a1
        obtain ⟨c, a1⟩ := After.okb a1
        have c := of_decide_eq_true c
        obtain ⟨l, vs, rfl, h4, h5⟩ := lsD_ok hr1 rd q1
        have e := intO_ok h5 q2
        subst e
        refine ⟨l, ns, rfl, SqL.of h4, c, fun p k hp hk => ?_⟩
        refine ⟨p, _, k, rfl, upd_same, by omega, fun ns' p' ri mem _ hp' => ?_⟩
        have e : ns' = setI ns := rise_uniq ri setI_rise fun z => by
          rw [mem z, setI_mem]
          exact decide_eq_true_iff
        subst e
        have x2 := Ext.laid (θ := θ1) (o := SetO X.w p (fun j => decide (j ∈ ns)) k) hp
        exact newL_ok (hr1.laid hp) (ints_reps _) (After.ext a1 x2) hp'
end
end Mp

set_option Elab.async false
set_option linter.all false
set_option autoImplicit false
set_option maxRecDepth 100000
set_option maxHeartbeats 4000000
namespace Mp
open PySem PySem.Spec L2
/-! ### equality of data as a Bool -/
mutual
def D.eqb : D → D → Bool
  | .non, .non => true
  | .bl a, .bl b => a == b
  | .int a, .int b => decide (a = b)
  | .str a, .str b => decide (a = b)
  | .tup a, .tup b => D.eqbs a b
  | .lst a, .lst b => D.eqbs a b
  | .scr a, .scr b => D.eqbs a b
  | .dic k a, .dic l b => decide (k = l) && D.eqbs a b
  | .ref a, .ref b => decide (a = b)
  | .ty a, .ty b => decide (a = b)
  | .glo a, .glo b => decide (a = b)
  | .exc c k a, .exc d l b => decide (c = d) && (decide (k = l) && D.eqbs a b)
  | _, _ => false
def D.eqbs : List D → List D → Bool
  | [], [] => true
  | x :: xs, y :: ys => D.eqb x y && D.eqbs xs ys
  | _, _ => false
end
mutual
theorem D.eqb_refl : ∀ d : D, D.eqb d d = true
  | .non => rfl
  | .bl _ => by simp [D.eqb]
  | .int _ => by simp [D.eqb]
  | .str _ => by simp [D.eqb]
  | .tup a => by simp [D.eqb, D.eqbs_refl a]
  | .lst a => by simp [D.eqb, D.eqbs_refl a]
  | .scr a => by simp [D.eqb, D.eqbs_refl a]
  | .dic k a => by simp [D.eqb, D.eqbs_refl a]
  | .ref _ => by simp [D.eqb]
  | .ty _ => by simp [D.eqb]
  | .glo _ => by simp [D.eqb]
  | .exc _ _ a => by simp [D.eqb, D.eqbs_refl a]
theorem D.eqbs_refl : ∀ d : List D, D.eqbs d d = true
  | [] => rfl
  | x :: xs => by simp [D.eqbs, D.eqb_refl x, D.eqbs_refl xs]
end
mutual
theorem D.eqb_eq : ∀ a b : D, D.eqb a b = true → a = b
  | .non, b, h => by cases b <;> first | rfl | (simp [D.eqb] at h)
  | .bl a, b, h => by cases b <;> simp [D.eqb] at h; rw [h]
  | .int a, b, h => by cases b <;> simp [D.eqb] at h; rw [h]
  | .str a, b, h => by cases b <;> simp [D.eqb] at h; rw [h]
  | .tup a, b, h => by cases b <;> simp [D.eqb] at h; rw [D.eqbs_eq a _ h]
  | .lst a, b, h => by cases b <;> simp [D.eqb] at h; rw [D.eqbs_eq a _ h]
  | .scr a, b, h => by cases b <;> simp [D.eqb] at h; rw [D.eqbs_eq a _ h]
  | .dic k a, b, h => by cases b <;> simp [D.eqb] at h; rw [h.1, D.eqbs_eq a _ h.2]
  | .ref a, b, h => by cases b <;> simp [D.eqb] at h; rw [h]
  | .ty a, b, h => by cases b <;> simp [D.eqb] at h; rw [h]
  | .glo a, b, h => by cases b <;> simp [D.eqb] at h; rw [h]
  | .exc c k a, b, h => by cases b <;> simp [D.eqb] at h; rw [h.1, h.2.1, D.eqbs_eq a _ h.2.2]
theorem D.eqbs_eq : ∀ a b : List D, D.eqbs a b = true → a = b
  | [], b, h => by cases b <;> first | rfl | (simp [D.eqbs] at h)
  | x :: xs, b, h => by
    cases b with
    | nil => simp [D.eqbs] at h
    | cons y ys =>
      simp [D.eqbs] at h
      rw [D.eqb_eq x y h.1, D.eqbs_eq xs ys h.2]
end
/-! ### what is walked -/
def itD (h : AH) : D → Option (List D)
  | .str x => some (signsD x)
  | .scr xs => some xs
  | d => sqD h d
/-- it still stands as it stood -/
def ckD (d : D) (xs : List D) (h : AH) : Bool := match d with
  | .ref n => (match asL h[n]? with
    | some ys => D.eqbs xs ys
    | none => false)
  | _ => true
theorem ckD_eq {n : Nat} {xs : List D} {h : AH} (e : ckD (.ref n) xs h = true) : h[n]? = some (.lst xs) := by
  have e' : (match asL h[n]? with
    | some ys => D.eqbs xs ys
    | none => false) = true := e
  cases q : asL h[n]? with
  | none => rw [q] at e'; cases e'
  | some ys => rw [q] at e'; rw [D.eqbs_eq _ _ e']; exact asL_eq q
structure Wk (K : PySem.W.Frag) (J : It) (xs : List D) (ck : AH → Bool) (L : Th → Hp → Prop) : Prop where
  go : ∀ (i : Nat) (θ : Th) (H : Hp) (h : AH), L θ H → HRep K θ H h → ck h = true → i < xs.length → J.go i H
  stop : ∀ (i : Nat) (θ : Th) (H : Hp) (h : AH), L θ H → HRep K θ H h → ck h = true → xs.length ≤ i → J.stop i H
  yld : ∀ (i : Nat) (θ : Th) (H : Hp) (h : AH) (x : V) (H' : Hp), L θ H → HRep K θ H h → ck h = true → i < xs.length → J.yld i H x H' → ∃ d, xs[i]? = some d ∧ Ext θ H θ H' ∧ (∀ a, H a ≠ none → H' a = H a) ∧ Rep K θ H' d x
/-- the source, by its data -/
def LD (K : PySem.W.Frag) (d : D) (v : V) : Th → Hp → Prop := fun θ H => Rep K θ H d v
theorem signs_get {x : Str} {i c : Nat} (e : x.cps[i]? = some c) : (signsD x)[i]? = some (.str ⟨#[c]⟩) := by
  unfold signsD
  rw [List.getElem?_map]
  simp [e]
theorem signs_len (x : Str) : (signsD x).length = x.cps.size := by unfold signsD; simp
/-- what is iterated over: which iterator stands for it -/
inductive ItOf (K : PySem.W.Frag) (H : Hp) : V → It → Prop
  | lst {a : Addr} {vs : List V} : SqL K H a vs → ItOf K H (.ref a) (Itl K a)
  | tup {a : Addr} {vs : List V} : SqT K H a vs → ItOf K H (.ref a) (Itt K a)
  | str (x : Str) : ItOf K H (.str x) (Its x)
theorem wk_list {K : PySem.W.Frag} {a : Addr} {xs : List D} {ck : AH → Bool} {L : Th → Hp → Prop} (S : ∀ θ H h, L θ H → HRep K θ H h → ck h = true → ∃ vs, SqL K H a vs ∧ Reps K θ H xs vs) : Wk K (Itl K a) xs ck L := by
  refine ⟨fun i θ H h l hr c hi => ?_, fun i θ H h l hr c hi => ?_, fun i θ H h x H' l hr c hi y => ?_⟩
  · obtain ⟨vs, s, r⟩ := S θ H h l hr c
    exact ⟨vs, vs[i]'(by rw [← r.len]; exact hi), s, by simp [← r.len, hi]⟩
  · obtain ⟨vs, s, r⟩ := S θ H h l hr c
    exact ⟨vs, s, by rw [← r.len]; exact hi⟩
  · obtain ⟨vs, s, r⟩ := S θ H h l hr c
    obtain ⟨rfl, y⟩ := y
    obtain ⟨d, e, q⟩ := r.getV (y vs s)
    exact ⟨d, e, Ext.refl, fun _ _ => rfl, q⟩
theorem wk_tup {K : PySem.W.Frag} {a : Addr} {xs : List D} {ck : AH → Bool} {L : Th → Hp → Prop} (S : ∀ θ H h, L θ H → HRep K θ H h → ck h = true → ∃ vs, SqT K H a vs ∧ Reps K θ H xs vs) : Wk K (Itt K a) xs ck L := by
  refine ⟨fun i θ H h l hr c hi => ?_, fun i θ H h l hr c hi => ?_, fun i θ H h x H' l hr c hi y => ?_⟩
  · obtain ⟨vs, s, r⟩ := S θ H h l hr c
    exact ⟨vs, vs[i]'(by rw [← r.len]; exact hi), s, by simp [← r.len, hi]⟩
  · obtain ⟨vs, s, r⟩ := S θ H h l hr c
    exact ⟨vs, s, by rw [← r.len]; exact hi⟩
  · obtain ⟨vs, s, r⟩ := S θ H h l hr c
    obtain ⟨rfl, y⟩ := y
    obtain ⟨d, e, q⟩ := r.getV (y vs s)
    exact ⟨d, e, Ext.refl, fun _ _ => rfl, q⟩
theorem wk_of {K : PySem.W.Frag} {θ : Th} {H : Hp} {h : AH} {d : D} {v : V} {xs : List D} (hr : HRep K θ H h) (r : Rep K θ H d v) (e : itD h d = some xs) : ∃ J, ItOf K H v J ∧ Wk K J xs (ckD d xs) (LD K d v) := by
  cases r with
  | str x =>
    cases e
    refine ⟨_, .str x, fun i θ H h l hr c hi => ?_, fun i θ H h l hr c hi => ?_, fun i θ H h y H' l hr c hi z => ?_⟩
    · rw [signs_len] at hi; exact hi
    · rw [signs_len] at hi; exact hi
    · obtain ⟨rfl, k, e, rfl⟩ := z
      exact ⟨_, signs_get e, Ext.refl, fun _ _ => rfl, .str _⟩
  | @tup ys vs a f rs =>
    cases e
    refine ⟨_, .tup f.sq, wk_tup fun θ H h l hr c => ?_⟩
    cases (show Rep K θ H (.tup xs) (.ref a) from l) with
    | tup f rs => exact ⟨_, f.sq, rs⟩
  | @lst ys vs a f rs =>
    cases e
    refine ⟨_, .lst (SqL.of f.1), wk_list fun θ H h l hr c => ?_⟩
    cases (show Rep K θ H (.lst xs) (.ref a) from l) with
    | lst f rs => exact ⟨_, SqL.of f.1, rs⟩
  | @scr ys vs a f rs =>
    cases e
    refine ⟨_, .lst f.sq, wk_list fun θ H h l hr c => ?_⟩
    cases (show Rep K θ H (.scr xs) (.ref a) from l) with
    | scr f rs => exact ⟨_, f.sq, rs⟩
  | @ref n a q =>
    have e : asL h[n]? = some xs := e
    obtain ⟨vs, h1, h2⟩ := hr.lst q (asL_eq e)
    refine ⟨_, .lst (SqL.of h1), wk_list fun θ H h l hr c => ?_⟩
    cases (show Rep K θ H (.ref n) (.ref a) from l) with
    | ref q =>
      obtain ⟨vs, h1, h2⟩ := hr.lst q (ckD_eq c)
      exact ⟨_, SqL.of h1, h2⟩
  | _ => cases e
theorem ckD_self {h : AH} {d : D} {xs : List D} (e : itD h d = some xs) : ckD d xs h = true := by
  cases d with
  | ref n =>
    have e : asL h[n]? = some xs := e
    show (match asL h[n]? with
      | some ys => D.eqbs xs ys
      | none => false) = true
    rw [e]
    exact D.eqbs_refl xs
  | _ => rfl
def iSeq (K : PySem.W.Frag) (te : TE) : TI := fun σ H R => te σ H fun x H1 => ∃ J, ItOf K H1 x J ∧ R J H1
theorem pi_seq {X : Cx} {tg e : Expr} {te : TE} (he : PE X e te) : PI X tg e (iSeq X.K te) := by
  refine ⟨fun pins s σ H R I h => ?_⟩
  refine thn (he.run pins s σ H _ I h) fun v s1 ⟨x, H1, I1, r1, J, it, q⟩ => ?_
  cases it with
  | lst hq =>
    cases r1
    obtain ⟨its, rv, p, hz⟩ := I1.list hq
    exact wpAny_pyIter_list p.isList (pi_one (tk := s1.toks) I1 _ (turn_list _ _) ⟨_, Heap.get?_push_size _ rfl, rfl, rfl⟩ q)
  | tup hq =>
    cases r1
    obtain ⟨its, rv, p, hz⟩ := I1.tuple hq
    exact wpAny_pyIter_tuple (show s1.heap.IsTuple _ its.toArray from p) (pi_one (tk := s1.toks) I1 _ (turn_tuple _ _) ⟨_, Heap.get?_push_size _ rfl, rfl, rfl⟩ q)
  | str x =>
    obtain ⟨t, rfl⟩ := r1
    cases ha : x.cps.all (· < 128)
    · exact wpAny_pyIter_wide ha (pi_one (tk := s1.toks) I1 _ (turn_str _ x t "str_iterator" (.inr rfl)) ⟨_, Heap.get?_push_size _ rfl, rfl, rfl⟩ q)
    · exact wpAny_pyIter_ascii ha (pi_one (tk := s1.toks) I1 _ (turn_str _ x t "str_ascii_iterator" (.inl rfl)) ⟨_, Heap.get?_push_size _ rfl, rfl, rfl⟩ q)
/-! ### comprehensions -/
/-- an error out of a comprehension is not carried -/
def noX {α : Type} : R α → R α
  | .ok a h => .ok a h
  | _ => .bad
def lcLoop (f : D → AH → R (Option D)) (ck : AH → Bool) : List D → AH → R (List D)
  | [], h => match ck h with
    | true => .ok [] h
    | false => .bad
  | x :: xs, h => match ck h with
    | true => (f x h).bind fun o h1 => (lcLoop f ck xs h1).bind fun ys h2 => .ok (o.toList ++ ys) h2
    | false => .bad
def lcTurn (mc : Ev → AH → R Bool) (me : Ev → AH → R D) (ρ : Ev) (h : AH) : R (Option D) :=
  noX ((mc ρ h).bind fun b h1 => match b with
    | true => (me ρ h1).bind fun d h2 => .ok (some d) h2
    | false => .ok none h1)
/-- a target: one name, or several names for the parts of a tuple -/
inductive Tg where
  | one (i : Nat)
  | many (is : List Nat)
def Tg.own : Tg → List Nat
  | .one i => [i]
  | .many is => is
def setMany : Ev → List Nat → List D → Ev
  | ρ, i :: is, d :: ds => setMany (ρ.set i (some d)) is ds
  | ρ, _, _ => ρ
def Tg.bind (t : Tg) (d : D) (ρ : Ev) : Option Ev := match t, d with
  | .one i, d => some (ρ.set i (some d))
  | .many is, .tup xs => if xs.length = is.length then some (setMany ρ is xs) else none
  | _, _ => none
def wipeE (ρ : Ev) : List Nat → Ev
  | [] => ρ
  | v :: vs => (wipeE ρ vs).set v none
def gNames : List Nat → TGs
  | [] => gNil
  | i :: is => gCons (gName i) (gNames is)
def gT (K : PySem.W.Frag) : Tg → TG
  | .one i => gName i
  | .many is => gTup K is.length (gNames is)
def lcIt (m : Bool) (tg : Tg) (mc : Ev → AH → R Bool) (me : Ev → AH → R D) (ρ : Ev) (xs : List D) (ck : AH → Bool) (h : AH) : R D :=
  (lcLoop (fun x h => match tg.bind x (wipeE ρ tg.own) with
    | some ρ' => lcTurn mc me ρ' h
    | none => .bad) ck xs h).bind fun ys h2 => newL m ys h2
def E0 : XW := fun _ _ _ => False
theorem EnvRep.wipe {K : PySem.W.Frag} {θ : Th} {H : Hp} {σ : L2.St} {ρ : Ev} (e : EnvRep K θ H σ ρ) (i : Nat) : EnvRep K θ H (σ.set i none) (ρ.set i none) := by
  refine ⟨by simpa using e.1, fun j d q => ?_⟩
  by_cases hj : i = j
  · subst hj
    by_cases hi : i < ρ.length
    · rw [List.getElem?_set_self hi] at q; cases q
    · rw [List.getElem?_eq_none (by simpa using hi)] at q; cases q
  · rw [List.getElem?_set_ne hj] at q
    obtain ⟨v, h1, h2⟩ := e.2 j d q
    exact ⟨v, by rw [List.getElem?_set_ne hj]; exact h1, h2⟩
theorem EnvRep.wipes {K : PySem.W.Frag} {θ : Th} {H : Hp} {σ : L2.St} {ρ : Ev} (e : EnvRep K θ H σ ρ) : ∀ vs : List Nat, EnvRep K θ H (L2.wipe σ vs) (wipeE ρ vs)
  | [] => e
  | v :: vs => (e.wipes vs).wipe v
theorem wipe_in {σ : L2.St} {i : Nat} : ∀ {vs : List Nat}, i ∈ vs → (wipe σ vs)[i]? = if i < σ.length then some none else none
  | v :: vs, h => by
    show ((wipe σ vs).set v none)[i]? = _
    by_cases hv : v = i
    · subst hv
      by_cases hl : v < σ.length
      · rw [List.getElem?_set_self (by rw [wipe_length]; exact hl), if_pos hl]
      · rw [if_neg hl, List.getElem?_eq_none (by rw [List.length_set, wipe_length]; omega)]
    · rw [List.getElem?_set_ne hv]
      exact wipe_in ((List.mem_cons.mp h).resolve_left fun q => hv q.symm)
theorem wipe_eq {σ σ' : L2.St} {vs : List Nat} (hl : σ'.length = σ.length) (h : ∀ i, i ∉ vs → σ'[i]? = σ[i]?) : wipe σ' vs = wipe σ vs := by
  apply List.ext_getElem?
  intro i
  by_cases hi : i ∈ vs
  · rw [wipe_in hi, wipe_in hi, hl]
  · rw [wipe_out hi, wipe_out hi]
    exact h i hi
theorem wipe_wipe {σ : L2.St} {vs : List Nat} : wipe (wipe σ vs) vs = wipe σ vs := wipe_eq (wipe_length _ _) fun _ hi => wipe_out hi
theorem gNames_ok {K : PySem.W.Frag} {θ : Th} {H : Hp} {R : L2.St → Hp → Prop} : ∀ {is : List Nat} {xs : List D} {vs : List V} {σ : L2.St} {ρ : Ev}, Reps K θ H xs vs → xs.length = is.length → EnvRep K θ H σ ρ →
    (∀ σ', EnvRep K θ H σ' (setMany ρ is xs) → σ'.length = σ.length → (∀ i, i ∉ is → σ'[i]? = σ[i]?) → R σ' H) → gNames is vs σ H R
  | [], xs, vs, σ, ρ, r, l, en, h => by
    have : xs = [] := by simpa using l
    subst this
    cases r
    exact ⟨rfl, h σ en rfl fun _ _ => rfl⟩
  | i :: is, xs, vs, σ, ρ, r, l, en, h => by
    cases r with
    | nil => simp at l
    | @cons x v xs vs rx rs =>
      refine ⟨v, vs, rfl, ?_⟩
      refine gNames_ok (ρ := ρ.set i (some x)) rs (by simpa using l) (en.set rx i) fun σ' en' hl hs => h σ' en' (by simpa using hl) fun j hj => ?_
      rw [hs j fun q => hj (List.mem_cons_of_mem _ q), List.getElem?_set_ne fun q => hj (by rw [q]; exact List.mem_cons_self ..)]
theorem gT_ok {K : PySem.W.Frag} {θ : Th} {H : Hp} {tg : Tg} {d : D} {v : V} {σ : L2.St} {ρ ρ' : Ev} {R : L2.St → Hp → Prop} (en : EnvRep K θ H σ ρ) (r : Rep K θ H d v) (e : tg.bind d ρ = some ρ')
    (h : ∀ σ', EnvRep K θ H σ' ρ' → wipe σ' tg.own = wipe σ tg.own → R σ' H) : gT K tg v σ H R := by
  cases tg with
  | one i =>
    have e : some (ρ.set i (some d)) = some ρ' := by cases d <;> exact e
    cases e
    exact h _ (en.set r i) (wipe_eq (by simp) fun j hj => List.getElem?_set_ne fun q => hj (by rw [q]; exact List.mem_cons_self ..))
  | many is =>
    cases r with
    | @tup xs vs a f rs =>
      have e : (if xs.length = is.length then some (setMany ρ is xs) else none) = some ρ' := e
      split at e
      · rename_i hl
        cases e
        exact ⟨a, vs, rfl, f.sq, by rw [← rs.len]; exact hl, gNames_ok rs hl en fun σ' en' l s => h σ' en' (wipe_eq l s)⟩
      · cases e
    | _ => cases e
/-- the loop of a comprehension whose list grows at P -/
theorem lc_run {K : PySem.W.Frag} {E : XW} {m : Bool} {tg : Tg} {mc : Ev → AH → R Bool} {me : Ev → AH → R D} {xs : List D} {ck : AH → Bool} {L : Th → Hp → Prop} {J : It} {σ : L2.St} {ρ : Ev} {θ1 : Th} {H1 : Hp} {h1 : AH} {Q : VK} {P : Addr}
    (W : Wk K J xs ck L) (hL : ∀ θ H θ' H', Mv θ H θ' H' → L θ H → L θ' H') (hLx : ∀ θ H θ' H', Ext θ H θ' H' → L θ H → L θ' H') (l1 : L θ1 H1) (e1 : EnvRep K θ1 H1 σ ρ) (hr1 : HRep K θ1 H1 h1) (hP : H1 P = none) (hz : xs.length ≤ sizeLine)
    (a : After K θ1 H1 E (lcIt m tg mc me ρ xs ck h1) Q) :
    ∃ W : Nat → Nat → Hp → Prop, (∃ m, W 0 m (upd H1 P (.lst []))) ∧ ∀ i m H, W i m H →
      (J.stop i H ∧ Q (.ref P) H) ∨ (J.go i H ∧ ∃ Nx : Hp → Prop, (∀ H', Nx H' → ∃ m', m' < m ∧ W (i + 1) m' H') ∧ ∀ x H', J.yld i H x H' → gT K tg x (wipe σ tg.own) H' fun σ2 H2 => wipe σ2 tg.own = wipe σ tg.own ∧ tMT K E0 mc σ2 H2 fun b H3 =>
        if b = true then tM K E0 me σ2 H3 fun y H4 => ∃ acc, H4 P = some (.lst acc) ∧ acc.length < sizeLine ∧ Nx (upd H4 P (.lst (acc ++ [y]))) else Nx H3) := by
  have nP := hr1.fresh hP
  -- the state between two turns
  let St : Nat → Hp → Prop := fun i H => ∃ (θ : Th) (h : AH) (acc : List D) (vacc : List V), H P = some (.lst vacc) ∧ HRep K (θ.hide P) H h ∧ EnvRep K (θ.hide P) H (wipe σ tg.own) (wipeE ρ tg.own) ∧ Reps K (θ.hide P) H acc vacc ∧
    L (θ.hide P) H ∧ Ext θ1 H1 θ H ∧ θ.no P ∧ acc.length ≤ i ∧ After K θ1 H1 E ((lcLoop (fun x h => match tg.bind x (wipeE ρ tg.own) with
      | some ρ' => lcTurn mc me ρ' h
      | none => .bad) ck (xs.drop i) h).bind fun ys h2 => newL m (acc ++ ys) h2) Q
  refine ⟨fun i m H => m = xs.length - i ∧ i ≤ xs.length ∧ St i H, ⟨xs.length, by simp, Nat.zero_le _, θ1, h1, [], [], upd_same, hr1.hide hP, (e1.wipes tg.own).mv (Mv.hide hP), .nil, hL _ _ _ _ (Mv.hide hP) l1, Ext.laid hP, nP, Nat.le_refl _, by simpa [lcIt] using a⟩, ?_⟩
  rintro i m H ⟨rfl, hi, θ, h, acc, vacc, hD, hr, en, ra, l, x, no, la, a⟩
  have hck : ck h = true := by
    cases q : ck h with
    | true => rfl
    | false =>
      cases z : xs.drop i with
      | nil => rw [z] at a; simp only [lcLoop, q] at a; exact False.elim a
      | cons y ys => rw [z] at a; simp only [lcLoop, q] at a; exact False.elim a
  by_cases hlt : i < xs.length
  · refine .inr ⟨W.go i _ H h l hr hck hlt, St (i + 1), fun H' s => ⟨xs.length - (i + 1), by omega, rfl, hlt, s⟩, fun v H' y => ?_⟩
    obtain ⟨d, ed, ex, kp, rd⟩ := W.yld i _ H h v H' l hr hck hlt y
    have hd : xs.drop i = d :: xs.drop (i + 1) := by
      rw [List.drop_eq_getElem_cons hlt]
      have : xs[i] = d := by simpa [hlt] using ed
      rw [this]
    rw [hd] at a
    simp only [lcLoop, hck] at a
    have hr' : HRep K (θ.hide P) H' h := hr.keep ex rfl fun a ha => kp a (hr.has ha)
    have xP : ∀ {θ' : Th} {H'' : Hp}, Ext (θ.hide P) H θ' H'' → ∃ θ2 : Th, θ' = θ2.hide P ∧ Ext θ H θ2 H'' ∧ θ2.no P := by
      intro θ' H'' x'
      refine ⟨⟨θ'.l, θ.x⟩, ?_, ⟨x'.pre, rfl, x'.keep, x'.sm⟩, x'.outl (a := P) no.1 (by rw [hD]; simp), no.2⟩
      obtain ⟨l', x''⟩ := θ'
      show Th.mk l' x'' = Th.mk l' (P :: θ.x)
      rw [show x'' = P :: θ.x from x'.px]
    cases qb : tg.bind d (wipeE ρ tg.own) with
    | none => simp only [qb] at a; exact False.elim a
    | some ρ' =>
    simp only [qb] at a
    refine gT_ok (en.mono ex) rd qb fun σ2 en' hw => ?_
    refine ⟨hw.trans wipe_wipe, θ.hide P, ρ', h, en', hr', ?_⟩
    -- the test
    cases q1 : mc ρ' h with
    | bad => simp only [lcTurn, q1, R.bind_bad, noX] at a; exact False.elim a
    | exc c fs h' => simp only [lcTurn, q1, R.bind_exc, noX] at a; exact False.elim a
    | ok b h2 =>
      intro θ3 H3 x3 hr3
      have kP : ∀ {θ' : Th} {H'' : Hp}, Ext (θ.hide P) H θ' H'' → H'' P = some (.lst vacc) := fun x' => x'.keep P _ hD no.1
      have x03 := ex.trans x3
      cases b with
      | false =>
        have ht : lcTurn mc me ρ' h = .ok none h2 := by
          unfold lcTurn
          rw [q1]
          rfl
        rw [ht] at a
        refine iteF ?_
        obtain ⟨θ2, rfl, x2, no2⟩ := xP x03
        refine ⟨θ2, h2, acc, vacc, kP x03, hr3, en.mono x03, ra.mono x03, hLx _ _ _ _ x03 l, x.trans x2, no2, by omega, ?_⟩
        simpa [R.bind_bind, R.bind_ok] using a
      | true =>
        refine iteT ?_
        refine ⟨θ3, _, h2, en'.mono x3, hr3, ?_⟩
        cases q2 : me ρ' h2 with
        | bad => simp only [lcTurn, q1, q2, R.bind_bad, R.bind_ok, noX] at a; exact False.elim a
        | exc c fs h' => simp only [lcTurn, q1, q2, R.bind_exc, R.bind_ok, noX] at a; exact False.elim a
        | ok y h4 =>
          intro vy θ4 H4 x4 hr4 ry
          have ht : lcTurn mc me ρ' h = .ok (some y) h4 := by
            unfold lcTurn
            rw [q1]
            show noX ((me _ h2).bind _) = _
            rw [q2]
            rfl
          rw [ht] at a
          have x04 := x03.trans x4
          obtain ⟨θ2, rfl, x2, no2⟩ := xP x04
          have hD4 := kP x04
          have lv : vacc.length = acc.length := ra.len.symm
          refine ⟨vacc, hD4, by omega, θ2, h4, acc ++ [y], vacc ++ [vy], upd_same, hr4.priv hD4 no2.1, (en.mono x04).mv Mv.priv, ((ra.mono x04).snoc ry).mv Mv.priv, hL _ _ _ _ Mv.priv (hLx _ _ _ _ x04 l), ?_, no2, by simp; omega, ?_⟩
          · have z := x.trans x2
            refine ⟨z.pre, z.px, fun a o e n => ?_, fun a e => ?_⟩
            · rw [upd_ne (ne_of_none e hP)]; exact z.keep a o e n
            · by_cases w : a = P
              · subst w; rw [upd_same]; simp
              · rw [upd_ne w]; exact z.sm a e
          · simpa [R.bind_bind, R.bind_ok] using a
  · have e : xs.drop i = [] := List.drop_eq_nil_of_le (by omega)
    refine .inl ⟨W.stop i _ H h l hr hck (by omega), ?_⟩
    rw [e] at a
    simp only [lcLoop, hck, R.bind_ok, List.append_nil] at a
    cases m with
    | true =>
      refine a (.ref P) (θ.add P) H ?_ (hr.give hD ra no.1) (.ref ?_)
      · obtain ⟨l', el, nl⟩ := x.pre
        exact ⟨⟨l' ++ [P], by show θ.l ++ [P] = _; rw [el, List.append_assoc], fun b hb => by
          rcases List.mem_append.mp hb with hb | hb
          · exact nl b hb
          · rw [show b = P by simpa using hb]; exact hP⟩, x.px, x.keep, x.sm⟩
      · show (θ.l ++ [P])[h.length]? = some P
        rw [← (show θ.l.length = h.length from hr.len)]
        simp
    | false => exact a (.ref P) θ H x hr.show (.lst ⟨hD, no⟩ (ra.mv Mv.show))
end Mp

set_option Elab.async false
set_option linter.all false
set_option autoImplicit false
set_option maxRecDepth 100000
set_option maxHeartbeats 4000000
namespace Mp
open PySem PySem.Spec L2
/-! ### the little language -/
inductive Bi where | len | isi | int | abs | list (m : Bool) | tuple | all | any | repr | str | sorted (m : Bool)
def Bi.name : Bi → Str
  | .len => "len" | .isi => "isinstance" | .int => "int" | .abs => "abs" | .list _ => "list" | .tuple => "tuple" | .all => "all" | .any => "any" | .repr => "repr" | .str => "str" | .sorted _ => "sorted"
def Bi.val : Bi → Value
  | .len => .builtin "len" | .isi => .builtin "isinstance" | .int => .type "int" | .abs => .builtin "abs" | .list _ => .type "list" | .tuple => .type "tuple" | .all => .builtin "all" | .any => .builtin "any" | .repr => .builtin "repr" | .str => .type "str" | .sorted _ => .builtin "sorted"
def Bi.run : Bi → List D → AH → R D
  | .len => lenD | .isi => isiD | .int => intD | .abs => absD | .list m => listD m | .tuple => tupleD | .all => allD | .any => anyD | .repr => reprD | .str => strF | .sorted m => srtD m
def Mt.name : Mt → Str
  | .join => "join" | .append => "append" | .extend => "extend" | .split => "split"
/-- what the receiver must be -/
def Mt.rcv : Mt → AH → D → Bool
  | .join, _, .str _ => true
  | .split, _, .str _ => true
  | .append, h, d => (lsD h d).isSome
  | .extend, h, d => (lsD h d).isSome
  | _, _, _ => false
inductive E where
  | k (d : D) | v (i : Nat) | g (x : Str) (d : D) | t (x : Str) (n : String)
  | bin (m : Bool) (op : Operator) (a b : E)
  | neg (a : E)
  | cmp (op : CmpOp) (a b : E)
  | chain (o1 o2 : CmpOp) (a b c : E)
  | andL (es : E) | orL (es : E) | not1 (a : E)
  | ife (t a b : E)
  | tup (es : E) | lst (m : Bool) (es : E) | dic0 | dic1 (k : Str) (d : D)
  | call (f : Str) (es : E)
  | callk (f : Str) (ks : List Str) (es : E)
  | bi (b : Bi) (es : E)
  | mt (t : Mt) (o es : E)
  | ix (a i : E)
  | sl (m : Bool) (a lo hi : E)
  | lc (m : Bool) (tg : Tg) (it c el : E)
  | rng (es : E) | zip (a b : E) | sq (e : E)
  | rev (m : Bool) (a : E) | up (a : E) | srs (m : Bool) (a : E)
  | gin (n : Bool) (x : Str) (a : E) | gix (x : Str) (a : E) | zips (a b : E)
  | new (c : Str) (es : E) | newk (c : Str) (ks : List Str) (es : E) | fld (a : E) (f : Str) | isx (a : E) (c : Str)
  | no | opt (a : E) | nil | cons (a b : E)
structure Mdl where
  Φ : Str → List D → AH → R D
  tb : Str → Option (Addr × FuncData × List Str)
  kt : Str → List Str → Option (List Nat)
  gl : Str → Option D
  fr : Str → Bool
  k : Nat
  dt : Str → Option (List (Str × D))
  xc : Str → Option (List Str) := fun _ => none
  xk : Str → List Str → Option (List Nat) := fun _ _ => none
  xs : Str → Str → Option Bool := fun _ _ => none
  oc : Str → Bool := fun _ => false
def bop (m : Bool) : Operator → D → D → AH → R D
  | .Add => addD m | .Sub => subD | .Mult => mulD m | .Mod => modD | .FloorDiv => fdivD | .Pow => powD
  | _ => fun _ _ _ => .bad
def cop : CmpOp → D → D → AH → R D
  | .Eq => eqD | .NotEq => neD | .Lt => ltD | .LtE => leD | .Gt => gtD | .GtE => geD | .Is => isD false | .IsNot => isD true | .In => inD false | .NotIn => inD true
def tst (c : E) (r : R D) (h : AH) : R Bool := match c with
  | .no => .ok true h
  | _ => r.bind truR
def prt (c : E) (r : R D) (h : AH) : R (Option Int) := match c with
  | .no => .ok none h
  | _ => r.bind fun d h => match d with
    | .int i => .ok (some i) h
    | _ => .bad
/-- range's items -/
def rngD (lo hi : Int) : List D := (List.range (hi - lo).toNat).map fun i => .int (lo + (i : Nat))
/-- bounds by log2: the kernel does not unfold it where the number is not known -/
def rngB (i j : Int) : Bool := decide (i.natAbs.log2 < 60) && (decide (j.natAbs.log2 < 60) && decide ((j - i).toNat.log2 < 24))
theorem log2_le {n k : Nat} (h : n.log2 < k) (hk : 0 < k) : n < 2 ^ k := by
  by_cases z : n = 0
  · rw [z]; exact Nat.two_pow_pos k
  · exact (Nat.log2_lt z).mp h
theorem log2_of {n k : Nat} (h : n < 2 ^ k) (hk : 0 < k) : n.log2 < k := by
  by_cases z : n = 0
  · rw [z]; exact hk
  · exact (Nat.log2_lt z).mpr h
theorem rngB_ok {i j : Int} (h : rngB i j = true) : (-(2 ^ 62) ≤ i ∧ i < 2 ^ 62 ∧ -(2 ^ 62) ≤ j ∧ j < 2 ^ 62) ∧ (j - i).toNat ≤ sizeLine := by
  have h1 := Bool.and_eq_true_iff.mp h
  have h2 := Bool.and_eq_true_iff.mp h1.2
  have a1 := log2_le (of_decide_eq_true h1.1) (by decide)
  have a2 := log2_le (of_decide_eq_true h2.1) (by decide)
  have a3 := log2_le (of_decide_eq_true h2.2) (by decide)
  exact ⟨⟨by omega, by omega, by omega, by omega⟩, Nat.le_of_lt a3⟩
def rngOf : List D → Option (Int × Int)
  | [.int j] => if rngB 0 j = true then some (0, j) else none
  | [.int i, .int j] => if rngB i j = true then some (i, j) else none
  | _ => none
/-- zip of two lists, of two tuples -/
def zipL (xs ys : List D) : List D := (xs.zip ys).map fun p => .tup [p.1, p.2]
def zipD (x y : D) (h : AH) : R (List D × (AH → Bool)) := match x, y with
  | .tup xs, .tup ys => .ok (zipL xs ys, fun _ => true) h
  | x, y => match lsD h x, lsD h y with
    | some xs, some ys => .ok (zipL xs ys, fun h => ckD x xs h && ckD y ys h) h
    | _, _ => .bad
def look {α β : Type} [DecidableEq α] (x : α) : List (α × β) → Option β
  | [] => none
  | (y, z) :: r => if y = x then some z else look x r
/-- a table of the module: is the text one of its keys, what stands there -/
def ginD (t : Option (List (Str × D))) (n : Bool) (d : D) (h : AH) : R D := match d, t with
  | .str z, some t => .ok (.bl (n != (look z t).isSome)) h
  | _, _ => .bad
def gixD (t : Option (List (Str × D))) (d : D) (h : AH) : R D := match d, t with
  | .str z, some t => (match look z t with
    | some e => .ok e h
    | none => .bad)
  | _, _ => .bad
/-- zip of two tuples of one length -/
def zipsD (x y : D) (h : AH) : R (List D × (AH → Bool)) := match x, y with
  | .tup xs, .tup ys => if xs.length = ys.length then .ok (zipL xs ys, fun _ => true) h else .bad
  | _, _ => .bad
/-- a new exception; a field of one; isinstance of one -/
def newD (fs : Option (List Str)) (c : Str) (ds : List D) (h : AH) : R D := match fs with
  | some fs => okb (decide (ds.length = fs.length)) (.ok (.exc c fs.reverse ds.reverse) h)
  | none => .bad
def fldD (xc : Str → Option (List Str)) (f : Str) (d : D) (h : AH) : R D := match d with
  | .exc c ks vs => (match xc c, (ks.zip vs).lookup f with
    | some fs, some v => okb (decide (f ∈ fs)) (.ok v h)
    | _, _ => .bad)
  | _ => .bad
def isxD (xc : Str → Option (List Str)) (xs : Str → Str → Option Bool) (x : Str) (d : D) (h : AH) : R D := match d with
  | .exc c _ _ => (match xc c, xs c x with
    | some _, some b => .ok (.bl b) h
    | _, _ => .bad)
  | _ => .bad
def revD (m : Bool) (d : D) (h : AH) : R D := match d with
  | .tup xs => .ok (.tup xs.reverse) h
  | d => match lsD h d with
    | some xs => newL m xs.reverse h
    | none => .bad
def upD (d : D) (h : AH) : R D := match d with
  | .str x => okb (decide (x.length ≤ 5592405)) (.ok (.str (Txt.upper x)) h)
  | _ => .bad
def negD (d : D) (h : AH) : R D := match d with
  | .int i => .ok (.int (-i)) h
  | _ => .bad
def notD (d : D) (h : AH) : R D := match truD h d with
  | some b => .ok (.bl (!b)) h
  | none => .bad
mutual
def ev (M : Mdl) : E → Ev → AH → R D
  | .k d, _, h => .ok d h
  | .v i, ρ, h => match ρ[i]? with
    | some (some d) => .ok d h
    | _ => .bad
  | .g _ d, _, h => .ok d h
  | .t _ n, _, h => .ok (.ty n) h
  | .bin m op a b, ρ, h => (ev M a ρ h).bind fun x h1 => (ev M b ρ h1).bind fun y h2 => bop m op x y h2
  | .neg a, ρ, h => (ev M a ρ h).bind negD
  | .cmp op a b, ρ, h => (ev M a ρ h).bind fun x h1 => (ev M b ρ h1).bind fun y h2 => cop op x y h2
  | .chain o1 o2 a b c, ρ, h => (ev M a ρ h).bind fun x h1 => (ev M b ρ h1).bind fun y h2 => (cop o1 x y h2).bind fun z h3 => match z with
    | .bl true => (ev M c ρ h3).bind fun w h4 => cop o2 y w h4
    | .bl false => .ok (.bl false) h3
    | _ => .bad
  | .andL es, ρ, h => evAnd M es ρ h
  | .orL es, ρ, h => evOr M es ρ h
  | .not1 a, ρ, h => (ev M a ρ h).bind notD
  | .ife t a b, ρ, h => (ev M t ρ h).bind fun x h1 => match truD h1 x with
    | some true => ev M a ρ h1
    | some false => ev M b ρ h1
    | none => .bad
  | .tup es, ρ, h => (evs M es ρ h).bind fun ds h1 => okb (decide (ds.length ≤ sizeLine)) (.ok (.tup ds) h1)
  | .lst m es, ρ, h => (evs M es ρ h).bind fun ds h1 => okb (decide (ds.length ≤ sizeLine)) (newL m ds h1)
  | .dic0, _, h => .ok (.dic [] []) h
  | .dic1 k d, _, h => .ok (.dic [.inr k] [d]) h
  | .call f es, ρ, h => (evs M es ρ h).bind fun ds h1 => M.Φ f ds h1
  | .callk f ks es, ρ, h => (evs M es ρ h).bind fun ds h1 => match M.kt f ks with
    | some perm => M.Φ f (perm.map fun i => ds.getD i .non) h1
    | none => .bad
  | .bi b es, ρ, h => (evs M es ρ h).bind fun ds h1 => b.run ds h1
  | .mt t o es, ρ, h => (ev M o ρ h).bind fun x h1 => match t.rcv h1 x with
    | true => (evs M es ρ h1).bind fun ds h2 => t.run x ds h2
    | false => .bad
  | .ix a i, ρ, h => (ev M a ρ h).bind fun x h1 => (ev M i ρ h1).bind fun y h2 => ixD x y h2
  | .sl m a lo hi, ρ, h => (ev M a ρ h).bind fun x h1 => (prt lo (ev M lo ρ h1) h1).bind fun l h2 => (prt hi (ev M hi ρ h2) h2).bind fun u h3 => slD m x l u h3
  | .lc m tg it c el, ρ, h => (evI M it ρ h).bind fun p h1 => okb (decide (p.1.length ≤ sizeLine)) (lcIt m tg (fun ρ h => tst c (ev M c ρ h) h) (fun ρ h => ev M el ρ h) ρ p.1 p.2 h1)
  | .rev m a, ρ, h => (ev M a ρ h).bind fun d h1 => revD m d h1
  | .up a, ρ, h => (ev M a ρ h).bind upD
  | .srs m a, ρ, h => (ev M a ρ h).bind fun d h1 => srsD m d h1
  | .gin n x a, ρ, h => (ev M a ρ h).bind fun d h1 => ginD (M.dt x) n d h1
  | .gix x a, ρ, h => (ev M a ρ h).bind fun d h1 => gixD (M.dt x) d h1
  | .new c es, ρ, h => (evs M es ρ h).bind fun ds h1 => newD (M.xc c) c ds h1
  | .newk c ks es, ρ, h => (evs M es ρ h).bind fun ds h1 => match M.xk c ks with
    | some perm => newD (M.xc c) c (perm.map fun i => ds.getD i .non) h1
    | none => .bad
  | .fld a f, ρ, h => (ev M a ρ h).bind fun d h1 => fldD M.xc f d h1
  | .isx a c, ρ, h => (ev M a ρ h).bind fun d h1 => isxD M.xc M.xs c d h1
  | .zips _ _, _, _ => .bad
  | .rng _, _, _ => .bad
  | .zip _ _, _, _ => .bad
  | .sq _, _, _ => .bad
  | .no, _, _ => .bad
  | .opt a, ρ, h => ev M a ρ h
  | .nil, _, _ => .bad
  | .cons _ _, _, _ => .bad
def evs (M : Mdl) : E → Ev → AH → R (List D)
  | .nil, _, h => .ok [] h
  | .cons a b, ρ, h => (ev M a ρ h).bind fun x h1 => (evs M b ρ h1).bind fun xs h2 => .ok (x :: xs) h2
  | _, _, _ => .bad
/-- what a loop goes over, and whether it still stands -/
def evI (M : Mdl) : E → Ev → AH → R (List D × (AH → Bool))
  | .rng es, ρ, h => (evs M es ρ h).bind fun ds h1 => match rngOf ds with
    | some (lo, hi) => .ok (rngD lo hi, fun _ => true) h1
    | none => .bad
  | .zip a b, ρ, h => (ev M a ρ h).bind fun x h1 => (ev M b ρ h1).bind fun y h2 => zipD x y h2
  | .zips a b, ρ, h => (ev M a ρ h).bind fun x h1 => (ev M b ρ h1).bind fun y h2 => zipsD x y h2
  | .sq e, ρ, h => (ev M e ρ h).bind fun d h1 => match itD h1 d with
    | some xs => .ok (xs, ckD d xs) h1
    | none => .bad
  | _, _, _ => .bad
def evAnd (M : Mdl) : E → Ev → AH → R D
  | .cons a .nil, ρ, h => ev M a ρ h
  | .cons a b, ρ, h => (ev M a ρ h).bind fun x h1 => match x with
    | .bl true => evAnd M b ρ h1
    | .bl false => .ok (.bl false) h1
    | _ => .bad
  | _, _, _ => .bad
def evOr (M : Mdl) : E → Ev → AH → R D
  | .cons a .nil, ρ, h => ev M a ρ h
  | .cons a b, ρ, h => (ev M a ρ h).bind fun x h1 => match x with
    | .bl true => .ok (.bl true) h1
    | .bl false => evOr M b ρ h1
    | _ => .bad
  | _, _, _ => .bad
end
/-! ### does the little text stand for the model's? -/
def constOk : Const → D → Bool
  | .none, .non => true
  | .bool a, .bl b => a == b
  | .int a, .int b => decide (a = b)
  | .str a, .str b => decide (a = b)
  | _, _ => false
def nmOk (x : Str) : Bool := !(x == ("__debug__" : Str)) && !(x == ("__classdict__" : Str)) && decide (x ≠ "__name__")
def visB (sc : Scope) (x : Str) : Bool := match sc.names.lookup x with
  | some .local => true | some .cell => true | some .free => true
  | _ => false
def glB (sc : Scope) (x : Str) : Bool := decide (sc.names.lookup x = some .globalImplicit)
def notSet : Expr → Bool
  | .Set .. => false
  | _ => true
def notStar : Expr → Bool
  | .Starred .. => false
  | _ => true
def notSlice : Expr → Bool
  | .Slice .. => false
  | _ => true
/-- an expression whose truth is that of its value -/
def plainT : Expr → Bool
  | .UnaryOp .Not _ _ => false | .BoolOp .. => false | .IfExp .. => false | .Compare .. => false
  | _ => true
def notIf : Expr → Bool
  | .IfExp .. => false
  | _ => true
/-- no super() -/
def abOk : Expr → Bool
  | .Call _ [] [] _ => false
  | _ => true
def nmT (sc : Scope) (N : List Str) (i : Nat) : Expr → Bool
  | .Name x _ => decide (N[i]? = some x) && decide (sc.names.lookup x = some .local)
  | _ => false
def nmsT (sc : Scope) (N : List Str) : List Nat → List Expr → Bool
  | [], [] => true
  | i :: is, e :: es => nmT sc N i e && nmsT sc N is es
  | _, _ => false
def tgOk (sc : Scope) (N : List Str) : Tg → Expr → Bool
  | .one i, e => nmT sc N i e
  | .many is, .Tuple es _ _ => nmsT sc N is es
  | _, _ => false
def tgName : Expr → Str
  | .Name x _ => x
  | _ => ""
def tgOwn : Tg → Expr → List (Str × Nat)
  | .one i, e => [(tgName e, i)]
  | .many is, .Tuple es _ _ => (es.map tgName).zip is
  | _, _ => []
def isTupE : Expr → Bool
  | .Tuple _ _ _ => true
  | _ => false
def kwOk (ks : List Str) (kws : List Keyword) : Bool := decide (kws.map (·.arg) = ks.map some)
def isTyB (x : Str) : Bool := match bootBuiltins x with
  | some (.type _) => true
  | _ => false
def opOk : Operator → Bool
  | .Add => true | .Sub => true | .Mult => true | .Mod => true | .FloorDiv => true | .Pow => true
  | _ => false
mutual
def chkE (M : Mdl) (N : List Str) : E → Scope → Expr → Bool
  | .k d, _, .Constant c _ _ => constOk c d
  | .v i, sc, .Name x _ => decide (N[i]? = some x) && (visB sc x && nmOk x)
  | .g y d, sc, .Name x _ => decide (x = y) && (glB sc x && (nmOk x && (match M.gl x with
    | some e => D.eqb d e
    | none => false)))
  | .t y n, sc, .Name x _ => decide (x = y) && (glB sc x && (nmOk x && (M.fr x && decide (bootBuiltins x = some (.type n)))))
  | .bin _ op a b, sc, .BinOp l o r _ => decide (op = o) && (opOk op && (chkE M N a sc l && chkE M N b sc r))
  | .neg a, sc, .UnaryOp .USub e _ => chkE M N a sc e
  | .cmp op a b, sc, .Compare l [o] [r] _ => decide (op = o) && (notSet r && (chkE M N a sc l && chkE M N b sc r))
  | .chain o1 o2 a b c, sc, .Compare l [p1, p2] [r1, r2] _ => decide (o1 = p1) && (decide (o2 = p2) && (notSet r2 && (chkE M N a sc l && (chkE M N b sc r1 && chkE M N c sc r2))))
  | .andL es, sc, .BoolOp .And (x :: xs) _ => chkA M N es sc (x :: xs) && (x :: xs).all notIf
  | .orL es, sc, .BoolOp .Or (x :: xs) _ => chkA M N es sc (x :: xs) && (x :: xs).all notIf
  | .not1 a, sc, .UnaryOp .Not e _ => chkE M N a sc e && notIf e
  | .ife t a b, sc, .IfExp c x y _ => notIf c && (chkE M N t sc c && (chkE M N a sc x && chkE M N b sc y))
  | .tup es, sc, .Tuple xs _ _ => chkA M N es sc xs
  | .lst _ es, sc, .List xs _ => chkA M N es sc xs
  | .dic0, _, .Dict [] [] _ => true
  | .dic1 k d, _, .Dict [some (.Constant (.str x) _ _)] [.Constant c _ _] _ => decide (k = x) && constOk c d
  | .call f es, sc, .Call (.Name x _) xs [] _ => decide (f = x) && (glB sc x && (nmOk x && ((M.tb f).isSome && chkA M N es sc xs)))
  | .callk f ks es, sc, .Call (.Name x _) [] kws _ => decide (f = x) && (glB sc x && (nmOk x && ((M.tb f).isSome && (kwOk ks kws && chkA M N es sc (kws.map (·.value))))))
  | .bi b es, sc, .Call (.Name x _) (y :: ys) [] _ => decide (b.name = x) && (glB sc x && (nmOk x && (M.fr x && chkA M N es sc (y :: ys))))
  | .mt t o es, sc, .Call (.Attribute x n ap) (y :: ys) [] cp => decide (t.name = n) && ((ap.endLine == cp.line) && (decide ((y :: ys).length < 29) && (abOk x && (chkE M N o sc x && chkA M N es sc (y :: ys)))))
  | .ix a i, sc, .Subscript x y _ => notSlice y && (chkE M N a sc x && chkE M N i sc y)
  | .sl _ a lo hi, sc, .Subscript x (.Slice l u none _) _ => chkE M N a sc x && (chkO M N lo sc l && chkO M N hi sc u)
  | .rev _ a, sc, .Subscript x (.Slice none none (some (.UnaryOp .USub (.Constant (.int i) _ _) _)) _) _ => decide (i = 1) && chkE M N a sc x
  | .up a, sc, .Call (.Attribute x n ap) [] [] cp => decide (n = "upper") && ((ap.endLine == cp.line) && (abOk x && chkE M N a sc x))
  | .srs _ a, sc, .Call (.Name f _) [.Call (.Name g _) [x] [] _] [] _ => decide (f = "sorted") && (decide (g = "set") && (glB sc f && (glB sc g && (M.fr f && (M.fr g && (notStar x && chkE M N a sc x))))))
  | .gin n x a, sc, .Compare l [o] [.Name y _] _ => decide (x = y) && (decide (o = bif n then .NotIn else .In) && (glB sc x && (nmOk x && ((M.dt x).isSome && chkE M N a sc l))))
  | .gix x a, sc, .Subscript (.Name y _) i _ => decide (x = y) && (glB sc x && (nmOk x && ((M.dt x).isSome && (notSlice i && chkE M N a sc i))))
  | .new c es, sc, .Call (.Name x _) xs [] _ => decide (c = x) && (glB sc x && (nmOk x && ((M.xc c).isSome && chkA M N es sc xs)))
  | .newk c ks es, sc, .Call (.Name x _) [] kws _ => decide (c = x) && (glB sc x && (nmOk x && ((M.xc c).isSome && ((M.xk c ks).isSome && (kwOk ks kws && chkA M N es sc (kws.map (·.value)))))))
  | .fld a f, sc, .Attribute x n _ => decide (f = n) && (abOk x && chkE M N a sc x)
  | .isx a c, sc, .Call (.Name b _) [x, .Name y _] [] _ => decide (b = "isinstance") && (glB sc b && (M.fr b && (decide (c = y) && (glB sc y && (nmOk y && ((M.oc y || (M.fr y && isTyB y)) && (notStar x && chkE M N a sc x)))))))
  | .lc _ t it c el, sc, .ListComp e [⟨tg, x, ifs, 0⟩] scope _ => chkT M N it sc (isTupE tg) x && (tgOk (relS scope sc) N t tg && (blkC N sc scope (tgOwn t tg) && (chkI M N c (relS scope sc) ifs && chkE M N el (relS scope sc) e)))
  | _, _, _ => false
def chkA (M : Mdl) (N : List Str) : E → Scope → List Expr → Bool
  | .nil, _, [] => true
  | .cons a b, sc, x :: xs => notStar x && (chkE M N a sc x && chkA M N b sc xs)
  | _, _, _ => false
def chkT (M : Mdl) (N : List Str) : E → Scope → Bool → Expr → Bool
  | .rng a, sc, _, .Call (.Name r _) xs [] _ => decide (r = "range") && (glB sc r && (M.fr r && (decide (xs.length = 1 ∨ xs.length = 2) && chkA M N a sc xs)))
  | .zip a b, sc, tt, .Call (.Name r _) [x, y] [] _ => tt && (decide (r = "zip") && (glB sc r && (M.fr r && (notStar x && (notStar y && (chkE M N a sc x && chkE M N b sc y))))))
  | .zips a b, sc, tt, .Call (.Name r _) [x, y] [⟨some k, .Constant (.bool true) _ _, _⟩] _ => tt && (decide (r = "zip") && (decide (k = "strict") && (glB sc r && (M.fr r && (notStar x && (notStar y && (chkE M N a sc x && chkE M N b sc y)))))))
  | .sq e, sc, _, x => notSet x && chkE M N e sc x
  | _, _, _, _ => false
def chkO (M : Mdl) (N : List Str) : E → Scope → Option Expr → Bool
  | .no, _, none => true
  | .opt a, sc, some e => chkE M N a sc e
  | _, _, _ => false
def chkI (M : Mdl) (N : List Str) : E → Scope → List Expr → Bool
  | .no, _, [] => true
  | .opt a, sc, [e] => notIf e && chkE M N a sc e
  | _, _, _ => false
end

example (M : Mdl) (ρ : Ev) (h : AH) : ev M (.bin false .Add (.k (.int 1)) (.v 0)) (some (.int 5) :: ρ) h = .ok (.int 6) h := by rfl
end Mp

set_option Elab.async false
set_option linter.all false
set_option autoImplicit false
set_option maxRecDepth 100000
set_option maxHeartbeats 4000000
namespace Mp
open PySem PySem.Spec L2
/-! ### own exception classes whose __init__ says super().__init__(text) and self.f = f, …: made -/
/-- a built-in base -/
structure XBase (B newId initId : String) (bmB : List Value) : Prop where
  F : ExcBaseFacts B newId initId bmB
  S : StoreFacts B bmB "object.__setattr__" "object"
  KF : PySem.W.KxsFacts B initId
/-- an exception's object -/
abbrev xo (C t : Addr) (dd : Option Addr) : Obj := { cls := .ref C, dict := dd, data := .fields #[.ref t, .none, .none, .none, .bool false, .none] }
section
variable {prog : Program} {w : World} {A : Around} {E : Value → Shared → Prop} {hp : Heap} {g : Array GenState} {d : Drawn} {t : Nat} {os : OsState} {K : PySem.W.Frag} {C x : Addr} {B newId initId : String} {bmB : List Value}
/-- what a class says of its instances' stores -/
structure XSet (K : PySem.W.Frag) (C : Addr) (bmB : List Value) : Prop where
  sa : PySem.W.findIn K (.ref C) "__setattr__" = some (some (.builtin "object.__setattr__"))
  ov : PySem.W.excOver K C bmB = true
  hd : PySem.W.hasDictIn K C = true
theorem taker_none {name : Str} (ha : PySem.W.findIn K (.ref C) name = some none) : PySem.W.takerIn K C name = some none := by
  unfold PySem.W.takerIn
  rw [ha]
  rfl
theorem xset0 {name : Str} {v : Value} {t0 : Addr} {Q : Unit → Shared → Prop} (XB : XBase B newId initId bmB) (XS : XSet K C bmB) (X : K.In hp) (hx : hp.get? x = some (xo C t0 none)) (ha : PySem.W.findIn K (.ref C) name = some none)
    (hq : ∀ h' tk' dx, (∀ b o, b ≠ x → hp.get? b = some o → h'.get? b = some o) → hp.objs.size ≤ dx → dx ≠ x → h'.get? x = some (xo C t0 (some dx)) → h'.Ns1 dx (fun y => if y = name then some v else none) → Q () ⟨h', g, d, tk', os⟩) :
    wpAny (model prog w) A (setAttr (.ref x) name v) Q E ⟨hp, g, d, t, os⟩ := by
  have hxs : x ≠ hp.objs.size := Nat.ne_of_lt (Heap.lt_size hx)
  refine PySem.W.set_plain (od := none) X ⟨hx, rfl, rfl, trivial⟩ XS.sa ?_
  refine PySem.W.osa_openX (od := none) XB.S X ⟨hx, rfl, rfl, trivial⟩ XS.ov (taker_none ha) fun b => ?_
  obtain ⟨cd, hc, hd'⟩ := PySem.W.any_some XS.hd
  refine wpAny_bind (wpAny_pure (wpAny_bind (PySem.W.instanceDict_exc hx (PySem.W.looks_clsIn X hc) hd' ?_)))
  refine PySem.HandSPX.store_in_new ?_ ?_
  · exact ⟨_, #[], _, (Heap.get?_update_ne _ _ _ _ hxs.symm).trans (Heap.get?_push_at rfl rfl), rfl, fun e he => absurd he (by simp), fun _ => rfl⟩
  · intro h' tk' hn' hs
    have hx₁ : (hp.push (PySem.W.dictOf [] 0)).get? x = some (xo C t0 none) := Heap.get?_push_of_some _ hx
    refine hq h' _ hp.objs.size (fun b o hb ho => ?_) (Nat.le_refl _) hxs.symm ?_ hn'
    · exact (hs.2 b (Nat.ne_of_lt (Heap.lt_size ho))).trans ((Heap.get?_update_ne _ _ _ _ hb).trans (Heap.get?_push_of_some _ ho))
    · exact (hs.2 x hxs).trans (Heap.get?_update_self _ hx₁ rfl)
theorem xset1 {name : Str} {v : Value} {t0 dx : Addr} {m0 : Str → Option Value} {ns : List Str} {Q : Unit → Shared → Prop} (XB : XBase B newId initId bmB) (XS : XSet K C bmB) (X : K.In hp) (hx : hp.get? x = some (xo C t0 (some dx))) (hn : hp.Ns1 dx m0) (hw : Within m0 ns) (hz : ns.length ≤ 1000) (ha : PySem.W.findIn K (.ref C) name = some none)
    (hq : ∀ h' tk', (∀ b o, b ≠ dx → hp.get? b = some o → h'.get? b = some o) → h'.Ns1 dx (fun y => if y = name then some v else m0 y) → Q () ⟨h', g, d, tk', os⟩) :
    wpAny (model prog w) A (setAttr (.ref x) name v) Q E ⟨hp, g, d, t, os⟩ := by
  obtain ⟨oD, esD, epD, hoD, hdD, _⟩ := hn.count hw
  refine PySem.W.set_plain (od := some oD) X ⟨hx, rfl, rfl, hoD⟩ XS.sa ?_
  refine PySem.W.osa_openX (od := some oD) XB.S X ⟨hx, rfl, rfl, hoD⟩ XS.ov (taker_none ha) fun b => ?_
  obtain ⟨cd, hc, hd'⟩ := PySem.W.any_some XS.hd
  refine wpAny_bind (wpAny_pure (wpAny_bind (wpAny_bind (wpAny_loadPart hx (wpAny_bind ((PySem.W.looks_clsIn X hc).here ?_))))))
  rw [hd']
  refine wpAny_pure (a := some dx) ?_
  refine PySem.OEX.store_in_old hn hw hz fun h' tk' hn' hs => ?_
  exact hq h' _ (fun b o hb ho => (hs.2 b hb).trans ho) hn'
end
theorem xb_ValueError : XBase "ValueError" "ValueError.__new__" "ValueError.__init__" [.type "ValueError", .type "Exception", .type "BaseException", .type "object"] := ⟨F.excBase_ValueError, F.store_ValueError, PySem.W.kxs_ValueError⟩
theorem xb_RuntimeError : XBase "RuntimeError" "RuntimeError.__new__" "RuntimeError.__init__" [.type "RuntimeError", .type "Exception", .type "BaseException", .type "object"] := ⟨F.excBase_RuntimeError, F.store_RuntimeError, PySem.W.kxs_RuntimeError⟩
theorem xb_LookupError : XBase "LookupError" "LookupError.__new__" "LookupError.__init__" [.type "LookupError", .type "Exception", .type "BaseException", .type "object"] := ⟨F.excBase_LookupError, F.store_LookupError, PySem.W.kxs_LookupError⟩
theorem xb_OverflowError : XBase "OverflowError" "OverflowError.__new__" "OverflowError.__init__" [.type "OverflowError", .type "ArithmeticError", .type "Exception", .type "BaseException", .type "object"] := ⟨F.excBase_OverflowError, F.store_OverflowError, PySem.W.kxs_OverflowError⟩
end Mp

set_option Elab.async false
set_option linter.all false
set_option autoImplicit false
set_option maxRecDepth 100000
set_option maxHeartbeats 4000000
namespace Mp
open PySem PySem.Spec L2
/-! ### super().__init__(text) -/
section
variable {prog : Program} {w : World} {A : Around} {E : Value → Shared → Prop} {K : PySem.W.Frag} {C e fI cc cda L : Addr} {B newId initId : String} {bmB : List Value} {mg mb : Str → Option Value}
  {name qual : Str} {params : Arguments} {body : List Stmt} {scope : Scope} {dV kV doc pm ct oc : Value} {an od : Option Addr} {osl : Array (Option Value)}
/-- where an __init__ stands, what it closes over -/
structure XFn (prog : Program) (K : PySem.W.Frag) (C fI cc cda : Addr) (initId : String) (fd : FuncData) (scope : Scope) : Prop where
  lk : ∃ oc od osl, K.lookup fI = some ⟨oc, od, .func fd, osl⟩
  code : ∃ ccl cdd vs ccs file tf, K.lookup cda = some ⟨ccl, cdd, .fields vs, ccs⟩ ∧ vs[2]? = some (.str file tf) ∧ ((prog.main.file : Str) == file) = true
  cell : ∃ cl cld csl, K.lookup cc = some ⟨cl, cld, .cell (some (.ref C)), csl⟩
  par : ∃ ar, (fd.params.posonlyargs ++ fd.params.args).head? = some ar ∧ ar.arg = "self"
  stat : PySem.W.nsIn K cStatics "thirdparty.any" = some none
  sup : PySem.W.ks_superIn K C C "__init__" = some (some (.builtin initId))
  top : (prog.main.scope.names.lookup ("super" : Str)).isSome = false
  ks : scope.names.lookup ("super" : Str) = some .globalImplicit
  kc : scope.names.lookup ("__class__" : Str) = some .free
  ka : scope.names.lookup ("self" : Str) = some .local
  kind : scope.kind = .function
theorem wpAt_mcall {M : Model} {s : Shared} {c : Code} {env : Env} {o : Expr} {nm : Str} {ap cp : Pos} {args : List Expr} {Q : Value → Shared → Prop} (hform : methodCallForm (args.length + ([] : List Keyword).length) (backTo cp (starEach args env)) (backToKw cp (keywordEach [] env)) = true) (hline : (ap.endLine == cp.line) = true)
    (h : PySem.wpAt M A c (attributeBase o nm env (eval o env)) (fun ov s1 => ∀ pl, wpAny M A (getMethod ov nm pl) (fun fx s2 => wpAny M A (callWith cp fx.1 fx.2 (backTo cp (starEach args env)) []) Q E s2) E s1) E s) :
    PySem.wpAt M A c (eval (.Call (.Attribute o nm ap) args [] cp) env) Q E s := by
  rw [arm_eval_Call]
  refine wpAt_bind (ks_wpAt_mono h (fun ov s1 h1 => wpAt_of_wpAny (wpAny_bind (wpAny_standAt ?_))) fun _ _ x => x)
  have hpos : methodCallPos true o env ap cp = pure cp := by unfold methodCallPos; simp [hline]
  unfold methodCall
  rw [hform]
  refine wpAny_bind (wpAny_holding ?_)
  show wpAny M A (getMethod ov nm _) _ E s1
  refine wpAny_mono (h1 _) (fun fx s2 h2 => ?_) fun _ _ x => x
  exact wpAny_bind (wpAny_of_eq hpos h2)
theorem xsuper {s : Shared} {t0 : Addr} {m : Str → Option Value} {bod : List Stmt} {p0 p1 p2 ap cp : Pos} {msg : Str} {j : Nat} {Q : Value → Shared → Prop} (XB : XBase B newId initId bmB) (XF : XFn prog K C fI cc cda initId (PySem.W.ksFn name qual params body scope dV kV doc pm an (.ref cda) ct cc) scope)
    (q : PySem.W.excInitIn K C bmB newId = true) (hB : PySem.W.subIn K (.ref C) (.type B) = some true) (X : K.In s.heap) (Gn : s.heap.Ns mainGlobals mg) (hmg : mg "super" = none) (Bn : s.heap.Ns builtinsNs mb) (hmb : mb "super" = some (.type "super"))
    (hL : s.heap.Ns L m) (hself : m "self" = some (.ref e)) (he : s.heap.get? e = some (xo C t0 none)) (hline : (ap.endLine == cp.line) = true)
    (hq : ∀ h' t1 tk', (∀ b o, b ≠ e → s.heap.get? b = some o → h'.get? b = some o) → h'.get? e = some (xo C t1 none) → Q .none { s with heap := h', toks := tk' }) :
    PySem.wpAt (model prog w) A (.func bod (PySem.W.ksEnv qual scope L fI (.ref cda) cc)) (eval (.Call (.Attribute (.Call (.Name "super" p0) [] [] p1) "__init__" ap) [.Constant (.str msg) j p2] [] cp) (PySem.W.ksEnv qual scope L fI (.ref cda) cc)) Q E s := by
  obtain ⟨oc, od, osl, lk⟩ := XF.lk
  obtain ⟨ccl, cdd, vs, ccs, file, tf, hcode, hvs, hfile⟩ := XF.code
  obtain ⟨cl, cld, csl, hcell⟩ := XF.cell
  obtain ⟨ar, hp, hself'⟩ := XF.par
  obtain ⟨nm, N', qn, bs, bm, hdct, sn, sub, ab, col, dd, k0, k1, k2, k3, k5, hC, hT⟩ := PySem.W.excInit_of X q
  have hcC : (Value.ref C :: bm).contains (.ref C) = true := by simp
  have hsupI := XF.sup
  have hstat := XF.stat
  obtain ⟨hh, g, d, t, os⟩ := s
  refine wpAt_mcall (o := .Call (.Name "super" p0) [] [] p1) (nm := "__init__") rfl hline ?_
  refine ks_wpAt_super_base (env := PySem.W.ksEnv qual scope L fI (.ref cda) cc) XF.ks XF.kc (by decide +kernel) rfl (X _ _ lk) rfl hp rfl (X _ _ hcode) rfl hvs hfile XF.top ?_
  refine PySem.W.ks_loadName_global XF.kind XF.ks (PySem.Calls.loadGlobal_builtin (env := PySem.W.ksEnv qual scope L fI (.ref cda) cc) Gn hmg Bn hmb ⟨rfl, ?_⟩)
  refine wpAny_loadName_free XF.kind XF.kc rfl ⟨_, X _ _ hcell, rfl⟩ ?_
  refine wpAny_loadName_local XF.kind (by rw [hself']; exact XF.ka) hL (by rw [hself']; exact hself) ?_
  refine ks_wpAny_isType_cls hC rfl ⟨rfl, ?_⟩
  refine ks_wpAny_call_super hC rfl he rfl (fun c z => by cases z) (fun A Q E s k q => PySem.wpAny_isSubtype_exc (k _ _ hC) (by rw [hcC]; exact q)) (fun h1 eso k1' => fun pl => ?_)
  have X1 : K.In h1 := X.keeps k1'
  have he1 := k1' _ _ he
  have I1 : PySem.W.InstAt h1 e (xo C t0 none) C none := ⟨he1, rfl, rfl, trivial⟩
  have hI : PySem.W.Looks (model prog w) h1 (isInstance (.ref e) (.type B)) true := I1.type.andThen (PySem.W.looks_subIn X1 hB)
  cases hc : PySem.W.clsIn K C with
  | none => unfold PySem.W.ks_superIn at hsupI; rw [hc] at hsupI; cases hsupI
  | some cd =>
    unfold PySem.W.ks_superIn at hsupI
    rw [hc] at hsupI
    refine PySem.W.kxs_getMethod XB.KF eso (PySem.W.looks_opaque X1 hstat) (l₀ := cd.mro) (fun A Q E s k q => wpAny_bind ((PySem.W.looks_clsIn X1 hc) A _ E s k (wpAny_pure q))) rfl X1 hsupI hI (PySem.W.ks_ne X1 I1 hc) (by decide +kernel) ?_
    have hu : (h1.push (PySem.W.kxs_mw initId e)).get? h1.objs.size = some (PySem.W.kxs_mw initId e) := Heap.get?_push_at rfl rfl
    have k2' : ∀ b o, hh.get? b = some o → (h1.push (PySem.W.kxs_mw initId e)).get? b = some o := fun b o z => Heap.get?_push_of_some _ (k1' b o z)
    have he2 := k2' _ _ he
    have hC2 := k2' _ _ hC
    show wpAny (model prog w) A (callWith cp (.ref h1.objs.size) [] (backTo cp (starEach [.Constant (.str msg) j p2] _)) []) _ _ _
    refine PySem.W.kxs_callWith (i := initId) (x := e) rfl ?_
    refine Calls.evalArgs_plain ?_
    refine Calls.spliced_cons ?_
    refine Calls.Constant_str (k := j) (pos := p2) (Calls.spliced_nil ⟨hu, ?_⟩)
    show wpAny (model prog w) A (call (.ref h1.objs.size) [.str msg _]) _ _ _
    refine wpAny_call (codeAny_of_tree ?_)
    show wpAny _ A.in1 (callAny (.ref h1.objs.size) ⟨[.str msg _], []⟩) _ _ _
    simp only [callAny]
    refine wpAny_bind (wpAny_load hu ?_)
    simp only [PySem.W.kxs_mw, show (Value.type "method-wrapper" == Value.type "method" || Value.type "method-wrapper" == Value.type "builtin_function_or_method" || Value.type "method-wrapper" == Value.type "method-wrapper") = true by decide, if_true]
    refine PySem.W.KFB.if_so (by decide) ?_
    refine wpAny_bind (PySem.W.check_bound_init XB.F.toExcCallFacts hC2 he2 rfl ?_)
    refine wpAny_bind (wpAny_pure (wpAny_pure ?_))
    refine ⟨plainId_quiet XB.F.init.plain _, codeAny_builtin XB.F.initEntry ?_⟩
    refine PySem.W.exc_init_tree (cls := .ref C) (t0 := t0) (dv := none) (c2 := .none) (c3 := .none) (b4 := .bool false) he2 (by rw [sizeLine_eq]; simp) fun h' k e' t' => ?_
    exact hq h' _ _ (fun b o hb z => k b o hb (k2' b o z)) e'
end
end Mp

set_option Elab.async false
set_option linter.all false
set_option autoImplicit false
set_option maxRecDepth 100000
set_option maxHeartbeats 4000000
namespace Mp
section
open PySem PySem.Spec L2 PySem.HandSPX
/-! ### the kit's call_own, with keywords -/
section
variable {M : Model} {A : Around} {E : Value → Shared → Prop} {h : Heap} {g : Array GenState} {d : Drawn} {t : Nat} {os : OsState}
variable {nm q : Str} {C N : Addr} {bs bm bmB : List Value} {hdct : Bool} {sn : List Str} {sub : List Value} {ab : Bool} {col : Option Bool} {dd : Option Addr} {k0 k1 k2 k3 k5 : Option Value} {B newId initId : String}
theorem check_new_kw (F : ExcBaseFacts B newId initId bmB) (hT : ∀ X : String, bm.contains (.type X) = bmB.contains (.type X)) {rest : List Value} {kw : List (Str × Value)} {Q : Unit → Shared → Prop}
    (hC : h.get? C = some (excClassObj nm q C N bs bm hdct sn sub ab col dd k0 k1 k2 k3 k5 newId)) (hq : Q () ⟨h, g, d, t, os⟩) : wpAny M A (checkBuiltinCall newId ⟨.ref C :: rest, kw⟩) Q E ⟨h, g, d, t, os⟩ := by
  have hcont : (Value.ref C :: bm).contains (.type B) = true := by rw [List.contains_cons, hT, F.hasB, Bool.or_true]
  have hstar := F.noStar
  simp only [checkBuiltinCall, F.newKind, F.newSplit, F.newRow]
  repeat (first | refine wpAny_loadPart_at hC ?_ | (refine wpAny_isSubtype_exc hC ?_; rw [hcont]) | refine wpAny_staticBase_exc hC ?_ | refine wpAny_madeBy_exc hC ?_ | simp only [bne_self_eq_false, Bool.false_eq_true, if_false] | wp_step)
  exact hq
end
section
variable {prog : Program} {w : World} {A : Around} {E : Value → Shared → Prop} {R : Result → Shared → Prop} {h : Heap} {g : Array GenState} {d : Drawn} {t : Nat} {os : OsState}
variable {nm q : Str} {C N : Addr} {bs bm bmB : List Value} {hdct : Bool} {sn : List Str} {sub : List Value} {ab : Bool} {col : Option Bool} {dd : Option Addr} {k0 k1 k2 k3 k5 : Option Value} {B newId initId : String}
theorem new_kw (F : ExcBaseFacts B newId initId bmB) (hT : ∀ X : String, bm.contains (.type X) = bmB.contains (.type X)) {rest : List Value} {kw : List (Str × Value)}
    (hC : h.get? C = some (excClassObj nm q C N bs bm hdct sn sub ab col dd k0 k1 k2 k3 k5 newId))
    (hq : R (.ok (.ret (.ref (h.objs.size + 1)))) ⟨(h.push { cls := .type "tuple", data := .seq rest.toArray }).push
      { cls := .ref C, data := .fields #[.ref h.objs.size, .none, .none, .none, .bool false, .none] }, g, d, t, os⟩) (hrest : rest.length ≤ sizeLine) :
    codeAny (model prog w) A (.builtin newId ⟨.ref C :: rest, kw⟩) R ⟨h, g, d, t, os⟩ := by
  have hends := F.ends
  have hcB : (Value.ref C :: bm).contains (.type B) = true := by rw [List.contains_cons, hT, F.hasB, Bool.or_true]
  have hcA : (Value.ref C :: bm).contains (.type "AttributeError") = false := by rw [List.contains_cons, hT, F.noAttr]; rfl
  have hcN : (Value.ref C :: bm).contains (.type "NameError") = false := by rw [List.contains_cons, hT, F.noName]; rfl
  refine codeAny_builtinAt F.entry ?_
  unfold Builtin.«BaseException.__new__»
  refine wpAt_bind ?_
  show wpAt _ _ _ (stack >>= _) _ _ _
  refine wpAt_bind (wpAt_stack fun p below => wpAt_of_wpAny ?_)
  wp_walk
  refine wpAt_of_wpAny ?_
  rw [F.owner]
  repeat (first | with_reducible refine wpAny_madeHere_exc F.canon hC ?_ | with_reducible refine wpAny_loadPart_at hC ?_ | (with_reducible refine wpAny_isSubtype_exc hC ?_; first | rw [hcB] | rw [hcA] | rw [hcN]) | wp_step)
  show R _ _
  rw [Heap.size_push]
  exact hq
theorem type_call_kw (F : ExcBaseFacts B newId initId bmB) (hT : ∀ X : String, bm.contains (.type X) = bmB.contains (.type X)) {rest : List Value} {kw : List (Str × Value)} {fI : Addr} {Q : Fin → Shared → Prop}
    (hC : h.get? C = some (excClassObj nm q C N bs bm hdct sn sub ab col dd k0 k1 k2 k3 k5 newId))
    (hi : PySem.W.Looks (model prog w) h (typeLookup (.ref C) "__init__") (some (.ref fI))) (hb : ∀ self, PySem.W.Looks (model prog w) h (bindSpecial (.ref fI) self) (.ref fI, [self])) (hrest : rest.length ≤ sizeLine)
    (hq : codeAny (model prog w) A (.call (.ref fI) ⟨.ref (h.objs.size + 1) :: rest, kw⟩)
      (fun r s' => match r with | .ok (.ret v) => v = .none ∧ Q (.done (.ret (.ref (h.objs.size + 1)))) s' | .ok _ => False | .error e => E e s')
      ⟨(h.push (PySem.W.kdv_tup rest)).push (excO C h.objs.size), g, d, t, os⟩) :
    wpAny (model prog w) A (Builtin.«type.__call__» ⟨.ref C :: rest, kw⟩) Q E ⟨h, g, d, t, os⟩ := by
  repeat (first | with_reducible refine wpAny_loadPart_at hC ?_ | with_reducible refine wpAny_madeBy_exc hC ?_ | wp_step)
  refine codeAny_call_builtin_code (Code.quiet_builtin _ F.quiet) (check_new_kw F hT hC ?_)
  refine new_kw F hT hC ?_ hrest
  show wpAny _ _ _ _ _ _
  have k : ∀ b o, h.get? b = some o → ((h.push (PySem.W.kdv_tup rest)).push (excO C h.objs.size)).get? b = some o := fun b o e => Heap.get?_push_of_some _ (Heap.get?_push_of_some _ e)
  have hC₁ := k _ _ hC
  have hget : ((h.push (PySem.W.kdv_tup rest)).push (excO C h.objs.size)).get? (h.objs.size + 1) = some (excO C h.objs.size) := by heap_get
  have hcC : (Value.ref C :: bm).contains (.ref C) = true := by simp
  have i1 := hi.keeps k
  have b1 := (hb (.ref (h.objs.size + 1))).keeps k
  unfold isInstance
  repeat (first | with_reducible refine wpAny_loadPart_at hget ?_ | (with_reducible refine wpAny_isSubtype_exc hC₁ ?_; rw [hcC]) | wp_step)
  show wpAny _ _ (typeLookup (.ref C) _) _ _ _
  refine i1.at ?_
  refine wpAny_holding (wpAny_bind (b1.at ?_))
  refine wpAny_bind (wpAny_call (codeAny_mono hq fun r s' z => ?_))
  rcases r with e | (v | _ | _ | _) <;> first | exact z | exact z.elim | skip
  obtain ⟨rfl, z⟩ := z
  first
    | exact wpAny_pure (wpAny_pure z)
    | (wp_walk; exact z)
theorem call_kw (F : ExcBaseFacts B newId initId bmB) (hT : ∀ X : String, bm.contains (.type X) = bmB.contains (.type X)) {rest : List Value} {kw : List (Str × Value)} {fI : Addr}
    (hC : h.get? C = some (excClassObj nm q C N bs bm hdct sn sub ab col dd k0 k1 k2 k3 k5 newId))
    (hi : PySem.W.Looks (model prog w) h (typeLookup (.ref C) "__init__") (some (.ref fI))) (hb : ∀ self, PySem.W.Looks (model prog w) h (bindSpecial (.ref fI) self) (.ref fI, [self])) (hrest : rest.length ≤ sizeLine)
    (hq : codeAny (model prog w) (A.under (.builtin "type.__call__" ⟨.ref C :: rest, kw⟩)) (.call (.ref fI) ⟨.ref (h.objs.size + 1) :: rest, kw⟩) (PySem.W.InitBack (h.objs.size + 1) R)
      ⟨(h.push (PySem.W.kdv_tup rest)).push (excO C h.objs.size), g, d, t, os⟩) :
    codeAny (model prog w) A (.call (.ref C) ⟨rest, kw⟩) R ⟨h, g, d, t, os⟩ := by
  have f1 := tc_lookup
  have f2 := tc_bind (.ref C)
  have hTy : (⟨h, g, d, t, os⟩ : Shared).TypeIs (.ref C) "type" := ⟨_, hC, rfl⟩
  refine codeAny_of_tree ?_
  show wpAny _ _ (callAny (.ref C) _) _ _ _
  repeat (any_goals (first | assumption | with_reducible refine wpAny_loadPart_at hC ?_ | wp_step))
  refine ⟨rfl, ?_⟩
  refine codeAny_call_builtin_at (Code.quiet_builtin _ (by decide +kernel)) entry_typeCall (wpAny_check_type_call_sub hC (type_call_kw F hT hC hi hb hrest ?_))
  refine codeAny_mono hq fun r s' z => ?_
  rcases r with e | (v | _ | _ | _) <;> exact z
end
end
open PySem PySem.Spec L2
/-! ### __init__, the class called -/
def fldM (l : List (Str × Value)) : Str → Option Value := fun y => l.lookup y
theorem fldM_cons {f : Str} {v : Value} {l : List (Str × Value)} : (fun y => if y = f then some v else fldM l y) = fldM ((f, v) :: l) := by
  funext y
  show _ = ((f, v) :: l).lookup y
  rw [List.lookup_cons]
  by_cases q : y = f
  · rw [if_pos q, beq_iff_eq.mpr q]
  · rw [if_neg q, beq_false_of_ne q]
    rfl
theorem fldM_within : ∀ l : List (Str × Value), Within (fldM l) (l.map (·.1))
  | [] => fun y h => absurd rfl h
  | (f, v) :: l => by
    rw [← fldM_cons]
    exact Within.cons f v (fldM_within l)
/-- self.f = f, for each of fs -/
def xasg : List Str → List Stmt → Bool
  | [], [] => true
  | f :: fs, .Assign [.Attribute (.Name s _) f' _] (.Name p _) _ :: r => decide (s = "self") && (decide (f' = f) && (decide (p = f) && xasg fs r))
  | _, _ => false
theorem xasg_cons {f : Str} {fs : List Str} {asgs : List Stmt} (h : xasg (f :: fs) asgs = true) : ∃ p1 p2 p3 p4 r, asgs = .Assign [.Attribute (.Name "self" p1) f p2] (.Name f p3) p4 :: r ∧ xasg fs r = true := by
  unfold xasg at h
  split at h
  case h_1 => rename_i q; cases q
  case h_3 => cases h
  case h_2 f0 fs0 sx px f' pa p pb pc r e1 =>
    cases e1
    have h1 := Bool.and_eq_true_iff.mp h
    have h2 := Bool.and_eq_true_iff.mp h1.2
    have h3 := Bool.and_eq_true_iff.mp h2.2
    exact ⟨px, pa, pb, pc, r, by rw [of_decide_eq_true h1.1, of_decide_eq_true h2.1, of_decide_eq_true h3.1], h3.2⟩
theorem xasg_nil {asgs : List Stmt} (h : xasg [] asgs = true) : asgs = [] := by
  cases asgs with
  | nil => rfl
  | cons _ _ => cases h
/-- an exception's object with its fields -/
def XAt (h : Heap) (e C : Addr) (l : List (Str × Value)) : Prop := (l = [] ∧ ∃ t, h.get? e = some (xo C t none)) ∨ ∃ t dx, l ≠ [] ∧ h.get? e = some (xo C t (some dx)) ∧ h.Ns1 dx (fldM l)
section
variable {prog : Program} {w : World} {A : Around} {E : Value → Shared → Prop} {K : PySem.W.Frag} {C e fI cc cda L : Addr} {B newId initId : String} {bmB : List Value} {mg mb : Str → Option Value} {qual : Str} {scope : Scope}
/-- between two statements -/
structure XSt (K : PySem.W.Frag) (h0 : Heap) (e C L : Addr) (m : Str → Option Value) (l : List (Str × Value)) (h : Heap) : Prop where
  k0 : ∀ b o, h0.get? b = some o → h.get? b = some o
  ns : h.Ns L m
  at_ : XAt h e C l
  kd : ∀ t dx, h.get? e = some (xo C t (some dx)) → h0.get? dx = none ∧ dx ≠ L
theorem xasgs {m : Str → Option Value} {h0 : Heap} {bod : List Stmt} (XB : XBase B newId initId bmB) (XS : XSet K C bmB) (hk : scope.kind = .function) (ka : scope.names.lookup ("self" : Str) = some .local) (hself : m "self" = some (.ref e)) (heL : L ≠ e) (X0 : K.In h0) (he0 : h0.get? e = none) :
    ∀ (fs : List Str) (us : List Value) (asgs : List Stmt) (l : List (Str × Value)) (s : Shared) (Q : Flow → Shared → Prop), xasg fs asgs = true → us.length = fs.length → (∀ f ∈ fs, scope.names.lookup f = some .local ∧ PySem.W.findIn K (.ref C) f = some none ∧ (f == ("__debug__" : Str)) = false) → (∀ p ∈ fs.zip us, m p.1 = some p.2) → l.length + fs.length ≤ 900 →
      XSt K h0 e C L m l s.heap →
      (∀ h' tk', XSt K h0 e C L m ((fs.zip us).reverse ++ l) h' → Q .next { s with heap := h', toks := tk' }) →
      PySem.wpAt (model prog w) A (.func bod (PySem.W.ksEnv qual scope L fI (.ref cda) cc)) (execs asgs (PySem.W.ksEnv qual scope L fI (.ref cda) cc)) Q E s
  | [], us, asgs, l, s, Q, ha, hl, _, _, _, S, hq => by
    have : us = [] := by simpa using hl
    subst this
    rw [xasg_nil ha]
    exact wpAt_of_wpAny (wpAny_pure (hq s.heap s.toks S))
  | f :: fs, us, asgs, l, s, Q, ha, hl, hf, hu, hlen, S, hq => by
    cases us with
    | nil => simp at hl
    | cons u us =>
      obtain ⟨p1, p2, p3, p4, r, rfl, ha'⟩ := xasg_cons ha
      obtain ⟨kf, nf, df⟩ := hf f (List.mem_cons_self ..)
      have hv : m f = some u := hu (f, u) (List.mem_cons_self ..)
      have X : K.In s.heap := X0.keeps S.k0
      refine ks_wpAt_execs_cons ?_
      refine ks_wpAt_Assign_Attr (wpAt_of_wpAny ?_)
      refine PySem.wpAny_Name (wpAny_loadName_local hk kf S.ns hv ?_) df
      refine PySem.wpAny_Name (wpAny_loadName_local hk ka S.ns hself ?_) (by decide +kernel)
      have hf' : ∀ g ∈ fs, scope.names.lookup g = some .local ∧ PySem.W.findIn K (.ref C) g = some none ∧ (g == ("__debug__" : Str)) = false := fun g hg => hf g (List.mem_cons_of_mem _ hg)
      have hu' : ∀ p ∈ fs.zip us, m p.1 = some p.2 := fun p hp => hu p (List.mem_cons_of_mem _ hp)
      have fin : (fs.zip us).reverse ++ ((f, u) :: l) = ((f :: fs).zip (u :: us)).reverse ++ l := by simp
      obtain ⟨oL, esL, epL, hLo, rL⟩ := S.ns
      have nextS : ∀ h' tk', XSt K h0 e C L m ((f, u) :: l) h' → PySem.wpAt (model prog w) A (.func bod (PySem.W.ksEnv qual scope L fI (.ref cda) cc)) (execs r (PySem.W.ksEnv qual scope L fI (.ref cda) cc)) Q E { s with heap := h', toks := tk' } := fun h' tk' S' =>
        xasgs XB XS hk ka hself heL X0 he0 fs us r ((f, u) :: l) { s with heap := h', toks := tk' } Q ha' (by simpa using hl) hf' hu' (by simp at hlen ⊢; omega) S' (fun h2 tk2 S2 => by rw [fin] at S2; exact hq h2 tk2 S2)
      obtain ⟨hh, g, d, t, os⟩ := s
      rcases S.at_ with ⟨rfl, t1, hx⟩ | ⟨t1, dx, ne, hx, hn⟩
      · refine xset0 XB XS X hx nf fun h' tk' dx k hdx ndx hx' hns => ?_
        have nL : dx ≠ L := fun z => by
          have := Heap.lt_size (show hh.get? L = some oL from hLo)
          rw [← z] at this
          exact absurd this (Nat.not_lt.mpr hdx)
        refine nextS h' tk' ⟨fun b o z => k b o (fun q => by rw [q, he0] at z; cases z) (S.k0 b o z), ⟨oL, esL, epL, k _ _ heL hLo, rL⟩, .inr ⟨t1, dx, by simp, hx', ?_⟩, fun t2 d2 z => ?_⟩
        · rw [← fldM_cons]
          exact hns
        · rw [hx'] at z
          cases z
          refine ⟨?_, nL⟩
          cases q : h0.get? dx with
          | none => rfl
          | some o => exact absurd (Heap.lt_size (S.k0 _ _ q)) (Nat.not_lt.mpr hdx)
      · obtain ⟨n0, nL⟩ := S.kd t1 dx hx
        have nde : e ≠ dx := fun z => by
          obtain ⟨od, esd, epd, h1, h2, _⟩ := hn
          rw [← z, hx] at h1
          cases h1
          cases h2
        refine xset1 XB XS X hx hn (fldM_within l) (by rw [List.length_map]; omega) nf fun h' tk' k hns => ?_
        refine nextS h' tk' ⟨fun b o z => k b o (fun q => by rw [q, n0] at z; cases z) (S.k0 b o z), ⟨oL, esL, epL, k _ _ (fun q => nL q.symm) hLo, rL⟩, .inr ⟨t1, dx, by simp, k _ _ nde hx, ?_⟩, fun t2 d2 z => ?_⟩
        · rw [← fldM_cons]
          exact hns
        · rw [k _ _ nde hx] at z
          cases z
          exact ⟨n0, nL⟩
/-- the whole body -/
structure XBody (fs : List Str) (body : List Stmt) : Prop where
  ex_ : ∃ p0 p1 p2 ap cp sp msg j asgs, body = .Expr (.Call (.Attribute (.Call (.Name "super" p0) [] [] p1) "__init__" ap) [.Constant (.str msg) j p2] [] cp) sp :: asgs ∧ (ap.endLine == cp.line) = true ∧ xasg fs asgs = true
def xbody (fs : List Str) : List Stmt → Bool
  | .Expr (.Call (.Attribute (.Call (.Name s _) [] [] _) i ap) [.Constant (.str _) _ _] [] cp) _ :: asgs => decide (s = "super") && (decide (i = "__init__") && ((ap.endLine == cp.line) && xasg fs asgs))
  | _ => false
theorem xbody_ok {fs : List Str} {body : List Stmt} (h : xbody fs body = true) : XBody fs body := by
  unfold xbody at h
  split at h
  · rename_i sx p0 p1 i ap msg j p2 cp sp asgs
    have h1 := Bool.and_eq_true_iff.mp h
    have h2 := Bool.and_eq_true_iff.mp h1.2
    have h3 := Bool.and_eq_true_iff.mp h2.2
    exact ⟨p0, p1, p2, ap, cp, sp, msg, j, asgs, by rw [of_decide_eq_true h1.1, of_decide_eq_true h2.1], h3.1, h3.2⟩
  · cases h
/-- an own exception class: everything that its call leans on -/
structure XCls (prog : Program) (K : PySem.W.Frag) (B newId initId : String) (bmB : List Value) (C : Addr) (fs : List Str) (kt : List (List Str × List Nat)) : Prop where
  base : XBase B newId initId bmB
  set_ : XSet K C bmB
  cls : PySem.W.excInitIn K C bmB newId = true
  sub : PySem.W.subIn K (.ref C) (.type B) = some true
  subB : PySem.W.subIn K (.ref C) (.type "BaseException") = some true
  ty : PySem.W.typeIn K (.ref C) = some (.type "type")
  kp : PySem.W.keepIn K (.ref C) = true
  len : fs.length ≤ 50
  nofld : ∀ f ∈ fs, PySem.W.findIn K (.ref C) f = some none ∧ (f == ("__debug__" : Str)) = false
  fn : ∃ fI cc cda name qual params body scope dV kV doc pm an ct, PySem.W.findIn K (.ref C) "__init__" = some (some (.ref fI)) ∧ PySem.W.isFn K (.ref fI) = true ∧
    XFn prog K C fI cc cda initId (PySem.W.ksFn name qual params body scope dV kV doc pm an (.ref cda) ct cc) scope ∧ PySem.W.codeIn K (.ref cda) qual = true ∧ XBody fs body ∧ (∀ f ∈ fs, scope.names.lookup f = some .local) ∧
    (∀ x ∈ scope.names, x.2 ≠ .cell) ∧ scope.isCoroutine = false ∧ scope.isGenerator = false ∧
    (∀ (s : Shared) (us : List Value), us.length = fs.length + 1 → BindsTo s (PySem.W.ksFn name qual params body scope dV kV doc pm an (.ref cda) ct cc) ⟨us, []⟩ ((("self" : Str) :: fs).zip us)) ∧
    (∀ p ∈ kt, p.2.length = fs.length ∧ ∀ (s : Shared) (v : Value) (ws : List Value), ws.length = p.1.length → BindsTo s (PySem.W.ksFn name qual params body scope dV kV doc pm an (.ref cda) ct cc) ⟨[v], p.1.zip ws⟩ ((("self" : Str) :: fs).zip (v :: p.2.map fun i => ws.getD i .none)))
theorem look_last {f : Str} {v : Value} : ∀ (l : List (Str × Value)), (f, v) ∈ l → (l.map (·.1)).Nodup → l.reverse.lookup f = some v := by
  intro l
  induction l with
  | nil => intro h; cases h
  | cons p l ih =>
    intro h nd
    obtain ⟨g, u⟩ := p
    have nd' : g ∉ l.map (·.1) ∧ (l.map (·.1)).Nodup := by simpa using nd
    rw [List.reverse_cons, List.lookup_append]
    rcases List.mem_cons.mp h with q | q
    · cases q
      have : l.reverse.lookup f = none := by
        rw [List.lookup_eq_none_iff]
        intro p hp
        have hp := List.mem_reverse.mp hp
        refine bne_iff_ne.mpr fun z => ?_
        exact nd'.1 (List.mem_map.mpr ⟨p, hp, z.symm⟩)
      rw [this]
      show ([(f, v)] : List (Str × Value)).lookup f = some v
      rw [List.lookup_cons, beq_self_eq_true]
    · rw [ih q nd'.2]
      rfl
theorem int_no {qual : Str} {scope : Scope} {L fI cc : Addr} {cd : Value} (hk : scope.kind = .function) : interactive (PySem.W.ksEnv qual scope L fI cd cc) = false := by
  unfold interactive
  rw [show (PySem.W.ksEnv qual scope L fI cd cc).scope.kind = .function from hk]
  rfl
theorem xinit {s : Shared} {args : Args} {h0 : Heap} {t0 : Addr} {us : List Value} {R : Result → Shared → Prop} {fs : List Str} {name : Str} {params : Arguments} {body : List Stmt} {dV kV doc pm ct : Value} {an : Option Addr} (XB : XBase B newId initId bmB) (XS : XSet K C bmB) (q : PySem.W.excInitIn K C bmB newId = true) (hB : PySem.W.subIn K (.ref C) (.type B) = some true)
    (XF : XFn prog K C fI cc cda initId (PySem.W.ksFn name qual params body scope dV kV doc pm an (.ref cda) ct cc) scope) (hcd : PySem.W.codeIn K (.ref cda) qual = true) (XBd : XBody fs body) (hloc : ∀ f ∈ fs, scope.names.lookup f = some .local) (hcell : ∀ x ∈ scope.names, x.2 ≠ .cell) (hco : scope.isCoroutine = false) (hgen : scope.isGenerator = false)
    (hbind : BindsTo s (PySem.W.ksFn name qual params body scope dV kV doc pm an (.ref cda) ct cc) args ((("self" : Str) :: fs).zip (.ref e :: us))) (hl : us.length = fs.length) (nd : (("self" : Str) :: fs).Nodup) (nf : ∀ f ∈ fs, PySem.W.findIn K (.ref C) f = some none ∧ (f == ("__debug__" : Str)) = false) (hlen : fs.length ≤ 50)
    (hroom : A.depth < recursionLimit) (X0 : K.In h0) (he0 : h0.get? e = none) (k0 : ∀ b o, h0.get? b = some o → s.heap.get? b = some o) (hlim : h0.NoLimit) (Gn : h0.Ns mainGlobals mg) (hmg : mg "super" = none) (Bn : h0.Ns builtinsNs mb) (hmb : mb "super" = some (.type "super")) (he : s.heap.get? e = some (xo C t0 none))
    (hq : ∀ h' tk', (∀ b o, h0.get? b = some o → h'.get? b = some o) → XAt h' e C (fs.zip us).reverse → (∀ t dx, h'.get? e = some (xo C t (some dx)) → h0.get? dx = none) → R (.ok (.ret .none)) { s with heap := h', toks := tk' }) :
    codeAny (model prog w) A (.call (.ref fI) args) R s := by
  obtain ⟨p0, p1, p2, ap, cp, sp, msg, j, asgs, rfl, hline, hasg⟩ := XBd.ex_
  obtain ⟨oc, od, osl, lk⟩ := XF.lk
  have X : K.In s.heap := X0.keeps k0
  have hbl : ∀ x ∈ (("self" : Str) :: fs).zip (.ref e :: us), scope.names.lookup x.1 = some .local := by
    rintro ⟨x, v⟩ hx
    rcases List.mem_cons.mp (show (x, v) ∈ (("self" : Str), Value.ref e) :: fs.zip us from hx) with z | z
    · cases z
      exact XF.ka
    · exact hloc x (List.of_mem_zip z).1
  refine ks_codeAny_call_defAt (binds := (("self" : Str) :: fs).zip (.ref e :: us)) hroom (X _ _ lk) rfl (hlim.keeps k0) (PySem.W.codeRec_of X hcd) rfl hbind hcell hbl (fun h1 hns hk1 => ?_) hco hgen XF.kind
  have ndz : (((("self" : Str) :: fs).zip (Value.ref e :: us)).map (·.1)).Nodup := by
    rw [List.map_fst_zip (by simp [hl])]
    exact nd
  have hself : (fun x => ((("self" : Str) :: fs).zip (Value.ref e :: us)).reverse.lookup x) ("self" : Str) = some (.ref e) := look_last _ (List.mem_cons_self ..) ndz
  have hus : ∀ p ∈ fs.zip us, (fun x => ((("self" : Str) :: fs).zip (Value.ref e :: us)).reverse.lookup x) p.1 = some p.2 := fun p hp => look_last _ (List.mem_cons_of_mem _ hp) ndz
  have heL : s.heap.objs.size ≠ e := (Nat.ne_of_lt (Heap.lt_size he)).symm
  have k01 : ∀ b o, h0.get? b = some o → h1.get? b = some o := fun b o z => hk1 b o (k0 b o z)
  show PySem.wpAt (model prog w) _ (.func _ (PySem.W.ksEnv qual scope s.heap.objs.size fI (.ref cda) cc)) (execs _ (PySem.W.ksEnv qual scope s.heap.objs.size fI (.ref cda) cc)) _ _ _
  refine ks_wpAt_execs_cons (ks_wpAt_Expr_any (xsuper (mg := mg) (mb := mb) XB XF q hB (X0.keeps k01) (Gn.keeps k01) hmg (Bn.keeps k01) hmb hns hself (hk1 _ _ he) hline fun h2 t1 tk2 k2 e2 => ?_) (hi := int_no XF.kind))
  have k02 : ∀ b o, h0.get? b = some o → h2.get? b = some o := fun b o z => k2 b o (fun w => by rw [w, he0] at z; cases z) (k01 b o z)
  obtain ⟨oL, esL, epL, hLo, rL⟩ := hns
  refine xasgs (h0 := h0) XB XS XF.kind XF.ka hself heL X0 he0 fs us asgs [] _ _ hasg hl (fun f hf => ⟨hloc f hf, nf f hf⟩) hus (by simp; omega) ⟨k02, ⟨oL, esL, epL, k2 _ _ heL hLo, rL⟩, .inl ⟨rfl, t1, e2⟩, fun t dx z => ?_⟩ fun h3 tk3 S3 => ?_
  · rw [e2] at z
    cases z
  · have S3 := S3
    rw [List.append_nil] at S3
    exact hq h3 tk3 S3.k0 S3.at_ fun t dx z => (S3.kd t dx z).1
/-- what the call of a class leaves -/
def XMade (s : Shared) (C : Addr) (l : List (Str × Value)) (Q : Value → Shared → Prop) : Prop :=
  ∀ h' tk' e, s.heap.get? e = none → s.heap.objs.size ≤ e → (∀ b o, s.heap.get? b = some o → h'.get? b = some o) → XAt h' e C l → (∀ t dx, h'.get? e = some (xo C t (some dx)) → s.heap.get? dx = none) → Q (.ref e) { s with heap := h', toks := tk' }
/-- C(..) -/
theorem xcall {s : Shared} {rest us : List Value} {kw : List (Str × Value)} {Q : Value → Shared → Prop} {fs : List Str} {kt : List (List Str × List Nat)} (XC : XCls prog K B newId initId bmB C fs kt) (ha : (kw = [] ∧ rest = us) ∨ (rest = [] ∧ ∃ ks perm ws, (ks, perm) ∈ kt ∧ ws.length = ks.length ∧ kw = ks.zip ws ∧ us = perm.map fun i => ws.getD i .none)) (hl : us.length = fs.length) (nd : (("self" : Str) :: fs).Nodup) (hroom : Room 0 A) (X : K.In s.heap) (hlim : s.heap.NoLimit) (Gn : s.heap.Ns mainGlobals mg) (hmg : mg "super" = none) (Bn : s.heap.Ns builtinsNs mb) (hmb : mb "super" = some (.type "super"))
    (hq : XMade s C (fs.zip us).reverse Q) : wpAny (model prog w) A (call (.ref C) rest kw) Q E s := by
  obtain ⟨fI, cc, cda, name, qual, params, body, scope, dV, kV, doc, pm, an, ct, hi, hfn, XF, hcd, XBd, hloc, hcell, hco, hgen, hb, hkb⟩ := XC.fn
  obtain ⟨nm, N', qn, bs, bm, hdct, sn, sub, ab, col, dd, k0, k1, k2, k3, k5, hC, hT⟩ := PySem.W.excInit_of X XC.cls
  obtain ⟨oI, hoI, hcI⟩ : ∃ oI, s.heap.get? fI = some oI ∧ oI.cls = .type "function" := by
    obtain ⟨o, ho, hc⟩ := Option.map_eq_some_iff.mp (show (K.lookup fI).map (·.cls) = some (.type "function") from beq_iff_eq.mp hfn)
    exact ⟨o, X _ _ ho, hc⟩
  have hi' : PySem.W.Looks (model prog w) s.heap (typeLookup (.ref C) "__init__") (some (.ref fI)) := PySem.W.looks_findIn X hi
  have hsz : rest.length ≤ sizeLine := by
    rcases ha with ⟨_, rfl⟩ | ⟨rfl, _⟩
    · rw [hl, sizeLine_eq]; have := XC.len; omega
    · exact Nat.zero_le _
  have hbind : ∀ (s : Shared) (e : Addr), BindsTo s (PySem.W.ksFn name qual params body scope dV kV doc pm an (.ref cda) ct cc) ⟨.ref e :: rest, kw⟩ ((("self" : Str) :: fs).zip (.ref e :: us)) := by
    intro s e
    rcases ha with ⟨rfl, rfl⟩ | ⟨rfl, ks, perm, ws, m, l, rfl, rfl⟩
    · exact hb s (.ref e :: rest) (by simp [hl])
    · exact (hkb _ m).2 s (.ref e) ws l
  obtain ⟨hh, g, d, t, os⟩ := s
  refine wpAny_call (call_kw XC.base.F hT hC hi' (fun self => PySem.W.exc_bind hoI hcI self) hsz ?_)
  have kk : ∀ b o, hh.get? b = some o → ((hh.push (PySem.W.kdv_tup rest)).push (PySem.HandSPX.excO C hh.objs.size)).get? b = some o := fun b o z => Heap.get?_push_of_some _ (Heap.get?_push_of_some _ z)
  have hget : ((hh.push (PySem.W.kdv_tup rest)).push (PySem.HandSPX.excO C hh.objs.size)).get? (hh.objs.size + 1) = some (PySem.HandSPX.excO C hh.objs.size) := by heap_get
  have hn : hh.get? (hh.objs.size + 1) = none := Heap.get?_none_of_le (Nat.le_succ _)
  refine xinit (h0 := hh) (t0 := hh.objs.size) XC.base XC.set_ XC.cls XC.sub XF hcd XBd hloc hcell hco hgen (hbind _ _) hl nd XC.nofld XC.len ?_ X hn kk hlim Gn hmg Bn hmb hget fun h' tk' k at_ kd => ?_
  · have := hroom.dp
    rw [make_depth]
    omega
  · exact ⟨rfl, hq h' tk' _ hn (Nat.le_succ _) k at_ kd⟩
end
end Mp

set_option Elab.async false
set_option linter.all false
set_option autoImplicit false
set_option maxRecDepth 100000
set_option maxHeartbeats 4000000
namespace Mp
open PySem PySem.Spec L2
/-! ### exceptions as values, in a context -/
section
variable {fs ex : List Addr} {H : Hp} {h h' : Heap} {a b : Addr} {o o2 : HO}
theorem Un.laid2 (k : ∀ b u, h.get? b = some u → h'.get? b = some u) (hp : h.get? a = none) (hp2 : h.get? b = none) (hn : H a = none) (hn2 : H b = none) : Un fs ex H (upd (upd H b o2) a o) h h' where
  keep := fun c u q _ _ _ => k c u q
  slot := fun c u q _ _ _ => ⟨u.slots, k c u q⟩
  free := fun c u q n _ => by rw [upd_ne (fun z => by rw [z, hp] at q; cases q), upd_ne (fun z => by rw [z, hp2] at q; cases q)]; exact n
  there := fun c u q _ => ⟨u, k c u q⟩
  tups := fun c xs q => by rw [upd_ne (ne_of_none q hn), upd_ne (ne_of_none q hn2)]; exact q
  frzs := fun c u xs q => by rw [upd_ne (ne_of_none q hn), upd_ne (ne_of_none q hn2)]; exact q
  tbls := fun c ps q => ⟨#[], by rw [upd_ne (ne_of_none q hn), upd_ne (ne_of_none q hn2), q]; simp⟩
theorem xo_ok {P : Program} {w : World} {H : Hp} {h : Heap} {a C t : Addr} {d : Option Addr} (e : h.get? a = some (xo C t d)) : ObjOk P w H h a (XO C d a) :=
  ⟨⟨_, _, e, ⟨rfl, rfl⟩, rfl⟩, ⟨_, e⟩, fun _ _ ⟨o, v, q, r⟩ k => ⟨o, v, k o q, r⟩⟩
theorem relO_all : ∀ {fs : List Str} {vs : List V} {us : List Value}, Vals vs us → ∀ n, RelO ((fs.zip vs).lookup n) (fldM (fs.zip us) n)
  | [], _, _, _, n => by
    show RelO (List.lookup n (List.zip [] _)) (List.lookup n (List.zip [] _))
    simp [RelO]
  | f :: fs, _, _, .nil, n => by
    show RelO (List.lookup n (List.zip (f :: fs) [])) (List.lookup n (List.zip (f :: fs) []))
    simp [RelO]
  | f :: fs, v :: vs, u :: us, .cons r t, n => by
    have ih := relO_all (fs := fs) t n
    show RelO (((f, v) :: fs.zip vs).lookup n) (((f, u) :: fs.zip us).lookup n)
    rw [List.lookup_cons, List.lookup_cons]
    cases n == f with
    | true => exact r
    | false => exact ih
theorem Vals.rev {vs : List V} {us : List Value} (r : Vals vs us) : Vals vs.reverse us.reverse := by
  induction r with
  | nil => exact .nil
  | cons r t ih =>
    rw [List.reverse_cons, List.reverse_cons]
    exact ih.append (.cons r .nil)
end
theorem zip_rev {α β : Type} : ∀ {xs : List α} {ys : List β}, xs.length = ys.length → (xs.zip ys).reverse = xs.reverse.zip ys.reverse := by
  intro xs
  induction xs with
  | nil => intro ys h; rfl
  | cons x xs ih =>
    intro ys h
    cases ys with
    | nil => simp at h
    | cons y ys =>
      have h' : xs.length = ys.length := by simpa using h
      rw [List.zip_cons_cons, List.reverse_cons, List.reverse_cons, List.reverse_cons, List.zip_append (by simp [h']), ih h']
      rfl
/-- what an exception's class must say where its instances are read and asked -/
structure XRd (K : PySem.W.Frag) (C : Addr) : Prop where
  ga : PySem.W.findIn K (.ref C) "__getattribute__" = some (some (.builtin "BaseException.__getattribute__"))
  gg : PySem.W.findIn K (.ref C) "__getattr__" = some none
  exC : PySem.W.subIn K (.ref C) (.type "BaseException") = some true
  hd : PySem.W.hasDictIn K C = true
  ha : PySem.W.findIn K (.ref C) "__class__" = some (some (.builtin "object.__class__"))
  hn : PySem.W.specialIn K (.builtin "object.__class__") "__get__" = some (some (.builtin "getset_descriptor.__get__"))
  ht : PySem.W.takesIn K (.builtin "object.__class__") = some true
  hm : PySem.W.mroIn K C (.type "object") = some true
section
variable {X : Cx} {C : Addr} {B newId initId : String} {bmB : List Value} {fs : List Str} {kt : List (List Str × List Nat)} {pins : List (Addr × Obj)} {σ : L2.St} {H : Hp} {s : Shared}
/-- what is wanted of a new exception -/
def XNew (C : Addr) (fs : List Str) (vs : List V) (H : Hp) (Q : VK) : Prop :=
  (fs = [] → ∀ a, H a = none → Q (.ref a) (upd H a (XO C none a))) ∧ (fs ≠ [] → ∀ a dx, H a = none → H dx = none → dx ≠ a → Q (.ref a) (upd (upd H dx (.xd (fs.reverse.zip vs.reverse))) a (XO C (some dx) a)))
theorem xnew_ok {us : List Value} {vs : List V} {Q : VK} (I : Inv X pins σ H s) (hl : us.length = fs.length) (r : Vals vs us) (hq : XNew C fs vs H Q) : XMade s C (fs.zip us).reverse (EP X pins σ Q) := by
  intro h' tk' e he hsz k at_ kd
  have hn : H e = none := I.hok.fresh hsz
  have hz : (fs.zip us).reverse = fs.reverse.zip us.reverse := zip_rev hl.symm
  rcases at_ with ⟨e0, t, hx⟩ | ⟨t, dx, ne, hx, hns⟩
  · have f0 : fs = [] := by
      have : (fs.zip us).length = 0 := by
        have := congrArg List.length e0
        simpa using this
      rw [List.length_zip, hl, Nat.min_self] at this
      exact List.length_eq_zero_iff.mp this
    exact ⟨.ref e, _, I.laidN (t' := tk') k he hn (xo_ok hx), rfl, hq.1 f0 e hn⟩
  · have f0 : fs ≠ [] := fun z => by
      subst z
      exact ne rfl
    have nd := kd t dx hx
    have hd : H dx = none := I.hok.gone nd
    have nde : dx ≠ e := fun z => by
      obtain ⟨od, esd, epd, h1, h2, _⟩ := hns
      rw [z, hx] at h1
      cases h1
      cases h2
    rw [hz] at hns
    have ok1 : HOk X.prog X.w (upd H dx (.xd (fs.reverse.zip vs.reverse))) h' := I.hok.laidN k hd ⟨_, hns, relO_all (Vals.rev r)⟩
    have ok2 : HOk X.prog X.w (upd (upd H dx (.xd (fs.reverse.zip vs.reverse))) e (XO C (some dx) e)) h' := ok1.laidN (fun _ _ z => z) (by rw [upd_ne nde.symm]; exact hn) (xo_ok hx)
    exact ⟨.ref e, _, I.un (t' := tk') (Un.laid2 k he nd hn hd) ok2, rfl, hq.2 f0 e dx hn hd nde⟩
theorem blt_super (I : Inv X pins σ H s) : ∃ mb, s.heap.Ns builtinsNs mb ∧ mb "super" = some (.type "super") := by
  obtain ⟨mb, h1, h2⟩ := I.ok.mod.blt
  exact ⟨mb, h1.keeps I.bk, (h2 _ (by decide +kernel)).trans (by decide +kernel)⟩
theorem xcallI {us rest : List Value} {kw : List (Str × Value)} {vs : List V} {Q : VK} (XC : XCls X.prog X.K B newId initId bmB C fs kt) (nd : (("self" : Str) :: fs).Nodup) (hs : X.mg "super" = none) (hr : Room 0 X.A) (I : Inv X pins σ H s)
    (ha : (kw = [] ∧ rest = us) ∨ (rest = [] ∧ ∃ ks perm ws, (ks, perm) ∈ kt ∧ ws.length = ks.length ∧ kw = ks.zip ws ∧ us = perm.map fun i => ws.getD i .none)) (hl : us.length = fs.length) (r : Vals vs us) (hq : XNew C fs vs H Q) : wpAny (model X.prog X.w) X.A (call (.ref C) rest kw) (EP X pins σ Q) X.xe s := by
  obtain ⟨mb, b1, b2⟩ := blt_super I
  exact xcall XC ha hl nd hr I.kIn (I.ok.mod.nolimit.keeps I.bk) (I.ok.mod.glob.keeps I.bk) hs b1 b2 (xnew_ok I hl r hq)
theorem pe_new {x : Str} {es : List Expr} {p pos : Pos} {ta : TA} (XC : XCls X.prog X.K B newId initId bmB C fs kt) (nd : (("self" : Str) :: fs).Nodup) (hg : Gl X x) (hm : X.mg x = some (.ref C)) (hs : X.mg "super" = none) (hr : Room 0 X.A) (ha : PA X es ta) (hdb : (x == ("__debug__" : Str)) = false)
    (h0 : es = [] → ∀ σ H Q, ta σ H Q → Q [] H) (hst : ∀ e r, es = e :: r → starEach (e :: r) X.env = (false, eval e X.env) :: starEach r X.env ∧ (backTo pos (starEach r X.env)).any (·.1) = false) :
    PE X (.Call (.Name x p) es [] pos) (fun σ H Q => ta σ H fun vs H1 => vs.length = fs.length ∧ XNew C fs vs H1 Q) := by
  refine ⟨fun pins s σ H Q I h => ?_⟩
  refine wpAny_Call_Name_kw (ld_glob I hg hm ?_ hdb)
  cases es with
  | nil =>
    obtain ⟨hl, hq⟩ := h0 rfl _ _ _ h
    exact PySem.W.callWith_K0 I.kIn XC.kp (xcallI XC nd hs hr I (.inl ⟨rfl, rfl⟩) hl .nil hq)
  | cons e es =>
    obtain ⟨s1, s2⟩ := hst e es rfl
    refine PySem.W.callWith_K (h₀ := X.base) I.ok.mod.kin XC.kp (thn (ha.run pos pins s σ H _ I h) fun us s1 ⟨vs, H1, I1, rv, hl, hq⟩ => ⟨I1.kIn, ?_⟩) s1 s2
    exact xcallI (us := us) (rest := us) XC nd hs hr I1 (.inl ⟨rfl, rfl⟩) (by rw [← rv.length]; exact hl) rv hq
theorem perm_vals {vs : List V} {ws : List Value} (rv : Vals vs ws) : ∀ perm : List Nat, Vals (perm.map fun i => vs.getD i .non) (perm.map fun i => ws.getD i .none)
  | [] => .nil
  | i :: is => by
    refine .cons ?_ (perm_vals rv is)
    show RelV (vs.getD i V.non) (ws.getD i Value.none)
    rw [List.getD_eq_getElem?_getD, List.getD_eq_getElem?_getD]
    cases z : vs[i]? with
    | none => rw [Vals.none_of rv z]; rfl
    | some v => obtain ⟨u, z1, z2⟩ := rv.get z; rw [z1]; exact z2
theorem pe_newk {x : Str} {ks : List Str} {perm : List Nat} {kws : List Keyword} {p pos : Pos} {ta : TA} (XC : XCls X.prog X.K B newId initId bmB C fs kt) (hk : (ks, perm) ∈ kt) (nd : (("self" : Str) :: fs).Nodup) (hg : Gl X x) (hm : X.mg x = some (.ref C)) (hs : X.mg "super" = none) (hr : Room 0 X.A) (ha : PK X kws ta) (hdb : (x == ("__debug__" : Str)) = false)
    (k1 : (backToKw pos (keywordEach kws X.env)).all (·.1.isSome) = true) (k2 : (backToKw pos (keywordEach kws X.env)).filterMap (·.1) = ks) (k3 : (backToKw pos (keywordEach kws X.env)).any (·.1.isNone) = false) :
    PE X (.Call (.Name x p) [] kws pos) (fun σ H Q => ta σ H fun vs H1 => vs.length = ks.length ∧ XNew C fs (perm.map fun i => vs.getD i .non) H1 Q) := by
  refine ⟨fun pins s σ H Q I h => ?_⟩
  refine wpAny_Call_Name_kw (ld_glob I hg hm ?_ hdb)
  obtain ⟨fI, cc, cda, name, qual, params, body, scope, dV, kV, doc, pm, an, ct, _, _, _, _, _, _, _, _, _, _, hkb⟩ := XC.fn
  refine PySem.W.callWith_KW0 (h₀ := X.base) I.ok.mod.kin XC.kp k1 (thn (ha.run pos pins s σ H _ I h) fun ws s1 ⟨vs, H1, I1, rv, hl, hq⟩ => ⟨I1.kIn, ?_⟩) ?_
  · rw [k2]
    have lw : ws.length = ks.length := by rw [← rv.length]; exact hl
    have rvs : Vals (perm.map fun i => vs.getD i .non) (perm.map fun i => ws.getD i .none) := perm_vals rv perm
    exact xcallI XC nd hs hr I1 (.inr ⟨rfl, ks, perm, ws, hk, lw, rfl, rfl⟩) (by rw [List.length_map]; exact (hkb _ hk).1) rvs hq
  · show ((backTo pos (starEach [] X.env)).any (·.1) || (backToKw pos (keywordEach kws X.env)).any (·.1.isNone)) = false
    rw [k3]; rfl
/-- where an exception stands -/
theorem xo_at (I : Inv X pins σ H s) {a : Addr} {d : Option Addr} (e : H a = some (XO C d a)) (hd : ∀ dx, d = some dx → ∃ l, H dx = some (.xd l)) : ∃ oe od, PySem.W.InstAt s.heap a oe C od ∧ ∀ dx, d = some dx → s.heap.get? dx = od ∧ od ≠ none := by
  obtain ⟨⟨oe, vs, h1, h2, h3⟩, _, _⟩ := (show ObjOk X.prog X.w H s.heap a (XO C d a) from I.hok a _ e)
  have nc : PySem.W.notCls oe = true := by unfold PySem.W.notCls; rw [h3]
  cases d with
  | none => exact ⟨oe, none, ⟨h1, h2.1, nc, by rw [h2.2]; trivial⟩, fun dx z => by cases z⟩
  | some dx =>
    obtain ⟨l, hl⟩ := hd dx rfl
    obtain ⟨mA, hns, _⟩ := (show ObjOk X.prog X.w H s.heap dx (.xd l) from I.hok dx _ hl)
    obtain ⟨od, ho, _⟩ := lookIn_ns hns
    exact ⟨oe, some od, ⟨h1, h2.1, nc, by rw [h2.2]; exact ho⟩, fun d2 z => by cases z; exact ⟨ho, by simp⟩⟩
/-- e.f of an exception -/
def tXat (K : PySem.W.Frag) (n : Str) (te : TE) : TE := fun σ H Q => te σ H fun x H1 => ∃ (a C dx : Addr) (l : List (Str × V)) (v : V), x = .ref a ∧ XRd K C ∧ PySem.W.findIn K (.ref C) n = some none ∧ H1 a = some (XO C (some dx) a) ∧ H1 dx = some (.xd l) ∧ l.lookup n = some v ∧ Q v H1
theorem pe_xat {e : Expr} {te : TE} {pos : Pos} {n : Str} (he : PE X e te) (hb : attributeBase e n X.env (eval e X.env) = eval e X.env) : PE X (.Attribute e n pos) (tXat X.K n te) := by
  refine ⟨fun pins s σ H Q I h => ?_⟩
  refine attr_of hb (thn (he.run pins s σ H _ I h) fun u s1 hh => ?_)
  obtain ⟨x, H1, I1, rx, a, C, dx, l, v, ex, T, hno, ea, ed, lk, q⟩ := hh
  subst ex
  obtain rfl : u = Value.ref a := rx
  obtain ⟨⟨oe, vs, h1, h2, h3⟩, _, _⟩ := (show ObjOk X.prog X.w H1 s1.heap a (XO C (some dx) a) from I1.hok a _ ea)
  obtain ⟨mA, hns, hr⟩ := (show ObjOk X.prog X.w H1 s1.heap dx (.xd l) from I1.hok dx _ ed)
  obtain ⟨od, ho, hl⟩ := lookIn_ns hns
  obtain ⟨u, hu, ru⟩ := RelO.some_of (v := v) (o := mA n) (by rw [← lk]; exact hr n)
  have J : PySem.W.InstAt s1.heap a oe C (some od) := ⟨h1, h2.1, by unfold PySem.W.notCls; rw [h3], by rw [h2.2]; exact ho⟩
  exact HandSPX.exc_get I1.kIn J T.ga T.gg T.exC (PySem.W.findObj_own T.hd hno rfl (by rw [hl, hu])) (handed_of ru) ⟨v, H1, I1.tok _, ru, q⟩
/-- isinstance of an exception -/
def rXis (K : PySem.W.Frag) : List V → Hp → VK → Prop := fun xs H Q => ∃ (a C : Addr) (d : Option Addr) (c : V) (cv : Value) (b : Bool), xs = [.ref a, c] ∧ XRd K C ∧ H a = some (XO C d a) ∧ (∀ dx, d = some dx → ∃ l, H dx = some (.xd l)) ∧ (∀ u, RelV c u → u = cv) ∧ PySem.W.kitOne K (.ref C) cv = some b ∧ Q (.bl b) H
theorem call_xis : CallR X (.builtin "isinstance") (rXis X.K) := by
  intro pins s σ H xs us Q I r h
  obtain ⟨a, C, d, c, cv, b, rfl, T, ea, ed, hcv, e, q⟩ := h
  obtain ⟨u1, u2, rfl, r1, r2⟩ := Vals.two r
  cases r1
  have ec := hcv _ r2
  subst ec
  obtain ⟨oe, od, J, _⟩ := xo_at I ea ed
  have hcl : (PySem.W.clsIn X.K C).isSome = true := by obtain ⟨cd, hc, _⟩ := PySem.W.any_some T.hd; rw [hc]; rfl
  exact PySem.W.kia_one (PySem.W.kitx_exc (ox := oe) (od := od) hcl T.ga T.gg T.exC T.ha T.hn T.ht T.hm) I.kIn J e (fun z => nomatch z) fun tk => ⟨.bl b, H, I.kept (t' := tk) fun _ _ z => z, rfl, q⟩
end
end Mp

set_option Elab.async false
set_option linter.all false
set_option autoImplicit false
set_option maxRecDepth 100000
set_option maxHeartbeats 4000000
namespace Mp
open PySem PySem.Spec L2
/-- exceptions in the layer's words -/
def xk (K : PySem.W.Frag) (E : XW) : XK := fun cls d H => ∃ c vs a, cls = .ref (He.ga K c) ∧ d = some a ∧ H a = some (.xd vs) ∧ E c vs H
/-- a def does on the heap what φ does on data -/
def FnRun (P : Program) (w : World) (K : PySem.W.Frag) (mg : Str → Option Value) (base : Heap) (k : Nat) (a : Addr) (fd : FuncData) (ps : List Str) (φ : List D → AH → R D) : Prop :=
  ∀ (A : Around) (outer : List Env) (s : Shared) (H : Hp) (args : Args) (us : List Value) (vs : List V) (θ : Th) (h : AH) (ds : List D) (Q : VK) (E : XW), Room k A → A.guards = some [] → Env0 P w K mg base A outer s H → BindsTo s fd args (ps.zip us) → Vals vs us →
    HRep K θ H h → Reps K θ H ds vs → After K θ H E (φ ds h) Q → codeAny (model P w) A (.call (.ref a) args) (CR (CX P w) outer P w H s Q (xk K E)) s
structure FnIs (P : Program) (w : World) (K : PySem.W.Frag) (mg : Str → Option Value) (base : Heap) (M : Mdl) (f : Str) (a : Addr) (fd : FuncData) (ps : List Str) : Prop where
  mgf : mg f = some (.ref a)
  kp : PySem.W.keepIn K (.ref a) = true
  bd : Binds K fd ps []
  len : ∀ ds h, M.Φ f ds h ≠ .bad → ds.length = ps.length
  kb : ∀ ks perm, M.kt f ks = some perm → perm.length = ps.length ∧ ∀ (s : Shared) (ws : List Value), K.In s.heap → ws.length = ks.length → BindsTo s fd ⟨[], ks.zip ws⟩ (ps.zip (perm.map fun i => ws.getD i .none))
  run : FnRun P w K mg base M.k a fd ps (M.Φ f)
/-- a table of the module stands as it is told -/
def DtIs (w : World) (K : PySem.W.Frag) (mg : Str → Option Value) (x : Str) (t : List (Str × D)) : Prop :=
  ∃ a es n, mg x = some (.ref a) ∧ KDict K w a es n ∧ ∀ z, match look z t with
    | some d => ∃ u v, PySem.W.nsIn K a z = some (some u) ∧ RelV v u ∧ ∀ θ H, Rep K θ H d v
    | none => PySem.W.nsIn K a z = some none
/-- an own exception class -/
structure XcIs (P : Program) (K : PySem.W.Frag) (mg : Str → Option Value) (M : Mdl) (c : Str) (fs : List Str) : Prop where
  cls : ∃ B newId initId bmB kt, XCls P K B newId initId bmB (He.ga K c) fs kt ∧ ∀ ks perm, M.xk c ks = some perm → (ks, perm) ∈ kt
  mgc : mg c = some (.ref (He.ga K c))
  sup : mg "super" = none
  nd : (("self" : Str) :: fs).Nodup
  rd : XRd K (He.ga K c)
/-- isinstance asks an exception of the class c for x -/
def XsIs (K : PySem.W.Frag) (mg : Str → Option Value) (c x : Str) (b : Bool) : Prop :=
  (mg x = some (.ref (He.ga K x)) ∧ PySem.W.kitOne K (.ref (He.ga K c)) (.ref (He.ga K x)) = some b) ∨ (∃ n, mg x = none ∧ bootBuiltins x = some (.type n) ∧ PySem.W.kitOne K (.ref (He.ga K c)) (.type n) = some b)
structure Good (X : Cx) (M : Mdl) (E : XW) : Prop where
  room : Room M.k X.A
  gds : X.A.guards = some []
  calm : X.calm = true
  nd : X.N.Nodup
  sys : SysD X.K
  pass : Passes (CX X.prog X.w) X (xk X.K E)
  own : PassesOwn (model X.prog X.w) X.A X.env X.xe
  glo : ∀ x d, M.gl x = some d → ∃ u v, X.mg x = some u ∧ RelV v u ∧ ∀ θ H, Rep X.K θ H d v
  free : ∀ x, M.fr x = true → X.mg x = none
  fns : ∀ f a fd ps, M.tb f = some (a, fd, ps) → FnIs X.prog X.w X.K X.mg X.base M f a fd ps
  dts : ∀ x t, M.dt x = some t → DtIs X.w X.K X.mg x t
  xcs : ∀ c fs, M.xc c = some fs → XcIs X.prog X.K X.mg M c fs
  xss : ∀ c x b, M.xs c x = some b → XsIs X.K X.mg c x b
  ocs : ∀ x, M.oc x = true → X.mg x = some (.ref (He.ga X.K x))
section
variable {X : Cx} {M : Mdl} {E : XW} {N : List Str} {sc : Scope}
theorem Good.hu (G : Good X M E) : X.A.units + 66 < cLine := by have := G.room.un; omega
theorem Good.hh (G : Good X M E) : X.A.handled = none := G.room.hd
/-! ### side conditions -/
theorem starEach_ns {e : Expr} {es : List Expr} {env : Env} (h : notStar e = true) : starEach (e :: es) env = (false, eval e env) :: starEach es env := by
  cases e <;> first | rfl | cases h
theorem chkA_len : ∀ {c : Mp.E} {es : List Expr}, chkA M N c sc es = true → ∀ {pos : Pos} {env : Env}, (backTo pos (starEach es env)).any (·.1) = false
  | .nil, [], _, _, _ => rfl
  | .cons a b, e :: es, h, pos, env => by
    have h' : (notStar e && (chkE M N a sc e && chkA M N b sc es)) = true := h
    have h1 := Bool.and_eq_true_iff.mp h'
    have h2 := Bool.and_eq_true_iff.mp h1.2
    rw [starEach_ns h1.1]
    show (false || (backTo pos (starEach es env)).any (·.1)) = false
    rw [chkA_len h2.2]
    rfl
theorem isTrue_ns {e : Expr} (h : plainT e = true) (env : Env) : ∀ whole, isTrue e env whole = (do let v ← whole; standAt e.pos; holding [v] (truthy v)) := by
  intro whole
  cases e with
  | UnaryOp op x pos => cases op <;> first | rfl | cases h
  | BoolOp _ _ _ => cases h
  | IfExp _ _ _ _ => cases h
  | Compare _ _ _ _ => cases h
  | _ => rfl
theorem marks_ns {e : Expr} (h : notSet e = true) (op : CmpOp) : behindInMarks op e = false := by
  cases e <;> first | rfl | cases h
theorem attr_ns {e : Expr} (h : abOk e = true) (n : Str) (env : Env) : attributeBase e n env (eval e env) = eval e env := by
  cases e with
  | Call f args kws pos =>
    cases args with
    | nil => cases kws with
      | nil => cases h
      | cons _ _ => cases f <;> rfl
    | cons _ _ => cases f <;> rfl
  | _ => rfl
theorem plain_ix {e : Expr} (h : notSlice e = true) : PlainIx e := by
  intro o i
  cases e <;> first | rfl | cases h
theorem fold_ns {e : Expr} (h : notSet e = true) (env : Env) : ∀ x, foldedSetIterable e env x = pure x := by
  intro x
  cases e <;> first | rfl | cases h
/-! ### a test from a value -/
theorem tst_of {e : Expr} {m : Ev → AH → R D} (h : PE X e (tM X.K E m)) (hp : plainT e = true) : PT X e (tMT X.K E fun ρ h => (m ρ h).bind truR) := by
  refine PT.wk (pt_truth h (isTrue_ns hp X.env)) fun σ H Q hq => ?_
  obtain ⟨θ, ρ, hh, en, hr, a⟩ := hq
  refine seqET en hr a fun d h1 v θ1 H1 e1 x1 en1 hr1 r a1 => ?_
  unfold truR at a1
  cases q : truD h1 d with
  | none => rw [q] at a1; exact False.elim a1
  | some b =>
    rw [q] at a1
    exact ⟨b, truD_ok hr1 r q, a1 θ1 H1 Ext.refl hr1⟩
/-- a value that is a bool, as a test -/
theorem AfterT.bl {K : PySem.W.Frag} {θ : Th} {H : Hp} {r : R D} {Q : Bool → Hp → Prop} (a : AfterT K θ H E (r.bind truR) Q) (hb : ∀ d h, r = .ok d h → ∃ b, d = .bl b) : After K θ H E r (fun z H' => ∃ k, z = .bl k ∧ Q k H') := by
  cases r with
  | ok d h =>
    obtain ⟨b, rfl⟩ := hb d h rfl
    intro v θ' H' x hr rp
    cases rp
    exact ⟨b, rfl, a θ' H' x hr⟩
  | exc c fs h => exact a
  | bad => exact a
theorem cop_bl {op : CmpOp} {x y : D} {h : AH} {d : D} {h' : AH} (e : cop op x y h = .ok d h') : ∃ b, d = .bl b := by
  have K : ∀ {c : Bool} {b : Bool} {h0 : AH}, okb c (.ok (.bl b) h0) = R.ok d h' → ∃ b, d = .bl b := by
    intro c b h0 e
    cases c with
    | true => cases e; exact ⟨_, rfl⟩
    | false => cases e
  have EQ : ∀ {g : Bool → Bool}, (match toPy h 64 x, toPy h 64 y with
      | some p, some q => okb (SeqAt.shaped p && SeqAt.shaped q) (.ok (.bl (g (PyData.eqv p q))) h)
      | _, _ => .bad) = R.ok d h' → ∃ b, d = .bl b := by
    intro g e
    split at e
    · exact K e
    · cases e
  have CM : ∀ {p : Int → Int → Bool} {q : List Nat → List Nat → Bool}, cmpD p q x y h = R.ok d h' → ∃ b, d = .bl b := by
    intro p q e
    unfold cmpD at e
    split at e <;> cases e <;> exact ⟨_, rfl⟩
  have IS : ∀ {n : Bool}, isD n x y h = R.ok d h' → ∃ b, d = .bl b := by
    intro n e
    unfold isD at e
    split at e <;> cases e
    exact ⟨_, rfl⟩
  have IN : ∀ {n : Bool}, inD n x y h = R.ok d h' → ∃ b, d = .bl b := by
    intro n e
    unfold inD at e
    split at e
    · cases e; exact ⟨_, rfl⟩
    · split at e
      · split at e
        · cases e; exact ⟨_, rfl⟩
        · cases e
      · cases e
  cases op with
  | Eq =>
    have e : eqD x y h = .ok d h' := e
    unfold eqD at e
    split at e
    · cases e; exact ⟨_, rfl⟩
    · cases e; exact ⟨_, rfl⟩
    · cases e; exact ⟨_, rfl⟩
    · cases e; exact ⟨_, rfl⟩
    · exact EQ (g := id) e
  | NotEq =>
    have e : neD x y h = .ok d h' := e
    unfold neD at e
    split at e
    · cases e; exact ⟨_, rfl⟩
    · cases e; exact ⟨_, rfl⟩
    · cases e; exact ⟨_, rfl⟩
    · cases e; exact ⟨_, rfl⟩
    · exact EQ (g := Bool.not) e
  | Lt =>
    have e : ltD x y h = .ok d h' := e
    unfold ltD at e
    exact CM e
  | LtE =>
    have e : leD x y h = .ok d h' := e
    unfold leD at e
    exact CM e
  | Gt =>
    have e : gtD x y h = .ok d h' := e
    unfold gtD at e
    exact CM e
  | GtE =>
    have e : geD x y h = .ok d h' := e
    unfold geD at e
    exact CM e
  | Is => exact IS e
  | IsNot => exact IS e
  | In => exact IN e
  | NotIn => exact IN e
theorem cop_ok (G : Good X M E) (op : CmpOp) : OpR X (compareOp op) (r2M X.K E (cop op)) := by
  have hu : X.A.units + 64 < cLine := by have := G.hu; omega
  cases op with
  | Eq => exact opS_eq G.sys hu
  | NotEq => exact opS_ne G.sys hu
  | Lt => exact opS_lt
  | LtE => exact opS_le
  | Gt => exact opS_gt
  | GtE => exact opS_ge
  | Is => exact opS_is
  | IsNot => exact opS_isnot
  | In => exact opS_in (n := false) rfl
  | NotIn => exact opS_in (n := true) rfl
theorem bop_ok {m : Bool} {op : Operator} (h : opOk op = true) : OpR X (binaryOp op) (r2M X.K E (bop m op)) := by
  cases op with
  | Add => exact opS_add
  | Sub => exact opS_sub
  | Mult => exact opS_mul
  | Mod => exact opS_mod
  | FloorDiv => exact opS_fdiv
  | Pow => exact opS_pow
  | _ => cases h
/-! ### the parts -/
theorem tOp_of {f : D → D → AH → R D} {ma mb : Ev → AH → R D} {σ : L2.St} {H : Hp} {Q : VK} (hq : tM X.K E (fun ρ h => (ma ρ h).bind fun x h1 => (mb ρ h1).bind fun y h2 => f x y h2) σ H Q) : tOp (r2M X.K E f) (tM X.K E ma) (tM X.K E mb) σ H Q := by
  obtain ⟨θ, ρ, h, en, hr, a⟩ := hq
  refine seqE en hr a fun d h1 v θ1 H1 e1 x1 en1 hr1 r1 a1 => ?_
  exact seqE en1 hr1 a1 fun e h2 w θ2 H2 e2 x2 en2 hr2 r2 a2 => ⟨θ2, h2, d, e, hr2, r1.mono x2, r2, a2⟩
theorem se_bin {m : Bool} {op : Operator} {l r : Expr} {pos : Pos} {ma mb : Ev → AH → R D} (ho : opOk op = true) (ha : PE X l (tM X.K E ma)) (hb : PE X r (tM X.K E mb)) :
    PE X (.BinOp l op r pos) (tM X.K E fun ρ h => (ma ρ h).bind fun x h1 => (mb ρ h1).bind fun y h2 => bop m op x y h2) :=
  PE.wk (pe_op (bop_ok ho) ha hb) fun _ _ _ hq => tOp_of hq
theorem se_cmp (G : Good X M E) {op : CmpOp} {l r : Expr} {pos : Pos} {ma mb : Ev → AH → R D} (hs : notSet r = true) (ha : PE X l (tM X.K E ma)) (hb : PE X r (tM X.K E mb)) :
    PE X (.Compare l [op] [r] pos) (tM X.K E fun ρ h => (ma ρ h).bind fun x h1 => (mb ρ h1).bind fun y h2 => cop op x y h2) ∧
    PT X (.Compare l [op] [r] pos) (tMT X.K E fun ρ h => ((ma ρ h).bind fun x h1 => (mb ρ h1).bind fun y h2 => cop op x y h2).bind truR) := by
  refine ⟨PE.wk (pe_cmpR (cop_ok G op) ha hb (marks_ns hs op)) fun _ _ _ hq => tOp_of hq, PT.wk (pt_cmpR (cop_ok G op) ha hb (marks_ns hs op)) fun σ H Q hq => ?_⟩
  obtain ⟨θ, ρ, h, en, hr, a⟩ := hq
  refine tOp_of ⟨θ, ρ, h, en, hr, a.bl fun d h' e => ?_⟩
  cases q1 : ma ρ h with
  | ok x h1 =>
    rw [q1] at e
    cases q2 : mb ρ h1 with
    | ok y h2 =>
      have e : ((mb ρ h1).bind fun y h2 => cop op x y h2) = .ok d h' := e
      rw [q2] at e
      exact cop_bl e
    | exc _ _ _ =>
      have e : ((mb ρ h1).bind fun y h2 => cop op x y h2) = .ok d h' := e
      rw [q2] at e; cases e
    | bad =>
      have e : ((mb ρ h1).bind fun y h2 => cop op x y h2) = .ok d h' := e
      rw [q2] at e; cases e
  | exc _ _ _ => rw [q1] at e; cases e
  | bad => rw [q1] at e; cases e
theorem RD.bind_ok {α β : Type} {r : R α} {f : α → AH → R β} {b : β} {h : AH} (e : r.bind f = .ok b h) : ∃ a h1, r = .ok a h1 ∧ f a h1 = .ok b h := by
  cases r with
  | ok a h1 => exact ⟨a, h1, rfl, e⟩
  | exc _ _ _ => cases e
  | bad => cases e
def chainR (o1 o2 : CmpOp) (mc : Ev → AH → R D) (ρ : Ev) (x y : D) (h2 : AH) : R D := (cop o1 x y h2).bind fun z h3 => match z with
  | .bl true => (mc ρ h3).bind fun w h4 => cop o2 y w h4
  | .bl false => .ok (.bl false) h3
  | _ => .bad
theorem chainR_bl {o1 o2 : CmpOp} {mc : Ev → AH → R D} {ρ : Ev} {x y d : D} {h h' : AH} (e : chainR o1 o2 mc ρ x y h = .ok d h') : ∃ b, d = .bl b := by
  obtain ⟨z, h1, e1, e2⟩ := RD.bind_ok e
  obtain ⟨b, rfl⟩ := cop_bl e1
  cases b with
  | true =>
    obtain ⟨w, h2, _, e3⟩ := RD.bind_ok (show ((mc ρ h1).bind fun w h4 => cop o2 y w h4) = .ok d h' from e2)
    exact cop_bl e3
  | false => cases e2; exact ⟨_, rfl⟩
theorem tChain_of {o1 o2 : CmpOp} {ma mb mc : Ev → AH → R D} {σ : L2.St} {H : Hp} {Q : VK} (hq : tM X.K E (fun ρ h => (ma ρ h).bind fun x h1 => (mb ρ h1).bind fun y h2 => chainR o1 o2 mc ρ x y h2) σ H Q) :
    tChain (r2M X.K E (cop o1)) (r2M X.K E (cop o2)) (tM X.K E ma) (tM X.K E mb) (tM X.K E mc) σ H Q := by
  obtain ⟨θ, ρ, h, en, hr, a⟩ := hq
  refine seqE en hr a fun x h1 v θ1 H1 e1 x1 en1 hr1 r1 a1 => ?_
  refine seqE en1 hr1 a1 fun y h2 w θ2 H2 e2 x2 en2 hr2 r2 a2 => ?_
  refine ⟨θ2, h2, x, y, hr2, r1.mono x2, r2, ?_⟩
  unfold chainR at a2
  cases q : cop o1 x y h2 with
  | bad => rw [q] at a2; exact False.elim a2
  | exc c fs h' => rw [q] at a2; exact a2
  | ok z h3 =>
    rw [q] at a2
    obtain ⟨b, rfl⟩ := cop_bl q
    intro vz θ3 H3 x3 hr3 rz
    cases rz
    refine ⟨b, rfl, ?_⟩
    cases b with
    | false => exact iteF (After.val (After.ext (show After X.K θ2 H2 E (.ok (.bl false) h3) Q from a2) x3) hr3 (.bl _))
    | true =>
      refine iteT ?_
      exact seqE (en2.mono x3) hr3 (After.ext (show After X.K θ2 H2 E ((mc ρ h3).bind fun w h4 => cop o2 y w h4) Q from a2) x3) fun u h4 vu θ4 H4 e4 x4 en4 hr4 r4 a4 => ⟨θ4, h4, y, u, hr4, (r2.mono x3).mono x4, r4, a4⟩
theorem marks2 {o1 o2 : CmpOp} {b c : Expr} (h : notSet c = true) : lastMarks [o1, o2] [b, c] = false := by
  show behindInMarks o2 c = false
  exact marks_ns h o2
theorem se_chain (G : Good X M E) {o1 o2 : CmpOp} {l r1 r2 : Expr} {pos : Pos} {ma mb mc : Ev → AH → R D} (hs : notSet r2 = true) (ha : PE X l (tM X.K E ma)) (hb : PE X r1 (tM X.K E mb)) (hc : PE X r2 (tM X.K E mc)) :
    PE X (.Compare l [o1, o2] [r1, r2] pos) (tM X.K E fun ρ h => (ma ρ h).bind fun x h1 => (mb ρ h1).bind fun y h2 => chainR o1 o2 mc ρ x y h2) ∧
    PT X (.Compare l [o1, o2] [r1, r2] pos) (tMT X.K E fun ρ h => ((ma ρ h).bind fun x h1 => (mb ρ h1).bind fun y h2 => chainR o1 o2 mc ρ x y h2).bind truR) := by
  refine ⟨PE.wk (pe_chain (cop_ok G o1) (cop_ok G o2) ha hb hc (marks2 hs)) fun _ _ _ hq => tChain_of hq, PT.wk (pt_chain (cop_ok G o1) (cop_ok G o2) ha hb hc (marks2 hs)) fun σ H Q hq => ?_⟩
  obtain ⟨θ, ρ, h, en, hr, a⟩ := hq
  refine tChain_of ⟨θ, ρ, h, en, hr, a.bl fun d h' e => ?_⟩
  obtain ⟨x, h1, _, e1⟩ := RD.bind_ok e
  obtain ⟨y, h2, _, e2⟩ := RD.bind_ok e1
  exact chainR_bl e2
theorem se_neg {e : Expr} {pos : Pos} {ma : Ev → AH → R D} (ha : PE X e (tM X.K E ma)) : PE X (.UnaryOp .USub e pos) (tM X.K E fun ρ h => (ma ρ h).bind negD) := by
  refine PE.wk (pe_un un_neg ha) fun σ H Q hq => ?_
  obtain ⟨θ, ρ, h, en, hr, a⟩ := hq
  refine seqE en hr a fun d h1 v θ1 H1 e1 x1 en1 hr1 r1 a1 => ?_
  cases r1 with
  | int i => exact ⟨i, rfl, a1.val hr1 (.int _)⟩
  | _ => exact False.elim a1
theorem se_not {e : Expr} {pos : Pos} {ma : Ev → AH → R D} (ha : PE X e (tM X.K E ma)) (ht : PT X e (tMT X.K E fun ρ h => (ma ρ h).bind truR)) :
    PE X (.UnaryOp .Not e pos) (tM X.K E fun ρ h => (ma ρ h).bind notD) ∧ PT X (.UnaryOp .Not e pos) (tMT X.K E fun ρ h => ((ma ρ h).bind notD).bind truR) := by
  constructor
  · refine PE.wk (pe_notT ha) fun σ H Q hq => ?_
    obtain ⟨θ, ρ, h, en, hr, a⟩ := hq
    refine seqE en hr a fun d h1 v θ1 H1 e1 x1 en1 hr1 r1 a1 => ?_
    unfold notD at a1
    cases q : truD h1 d with
    | none => rw [q] at a1; exact False.elim a1
    | some b => rw [q] at a1; exact ⟨b, truD_ok hr1 r1 q, a1.val hr1 (.bl _)⟩
  · refine PT.wk (pt_not ht) fun σ H Q hq => ?_
    obtain ⟨θ, ρ, h, en, hr, a⟩ := hq
    refine ⟨θ, ρ, h, en, hr, ?_⟩
    show AfterT X.K θ H E ((ma ρ h).bind truR) _
    cases q : ma ρ h with
    | bad => simp only [q, R.bind_bad] at a; exact a
    | exc c fs h' => simp only [q, R.bind_exc] at a; exact a
    | ok d h1 =>
      simp only [q, R.bind_ok, notD] at a
      show AfterT X.K θ H E (truR d h1) _
      unfold truR
      cases q2 : truD h1 d with
      | none => rw [q2] at a; exact False.elim a
      | some b => rw [q2] at a; exact a
/-! ### and, or -/
def andR (x : D) (r : AH → R D) (h1 : AH) : R D := match x with
  | .bl true => r h1
  | .bl false => .ok (.bl false) h1
  | _ => .bad
def orR (x : D) (r : AH → R D) (h1 : AH) : R D := match x with
  | .bl true => .ok (.bl true) h1
  | .bl false => r h1
  | _ => .bad
theorem se_and {a b : Expr} {rest : List Expr} {pos : Pos} {ma mb : Ev → AH → R D} (ha : PE X a (tM X.K E ma)) (hb : PE X (.BoolOp .And (b :: rest) pos) (tM X.K E mb)) : PE X (.BoolOp .And (a :: b :: rest) pos) (tM X.K E fun ρ h => (ma ρ h).bind fun x h1 => andR x (mb ρ) h1) := by
  refine PE.wk (pe_and ha hb) fun σ H Q hq => ?_
  obtain ⟨θ, ρ, h, en, hr, a⟩ := hq
  refine seqE en hr a fun d h1 v θ1 H1 e1 x1 en1 hr1 r1 a1 => ?_
  cases r1 with
  | bl c => cases c with
    | true => exact ⟨true, rfl, iteT ⟨θ1, ρ, h1, en1, hr1, a1⟩⟩
    | false => exact ⟨false, rfl, iteF (After.val a1 hr1 (.bl _))⟩
  | _ => exact False.elim a1
theorem se_or {a b : Expr} {rest : List Expr} {pos : Pos} {ma mb : Ev → AH → R D} (ha : PE X a (tM X.K E ma)) (hb : PE X (.BoolOp .Or (b :: rest) pos) (tM X.K E mb)) : PE X (.BoolOp .Or (a :: b :: rest) pos) (tM X.K E fun ρ h => (ma ρ h).bind fun x h1 => orR x (mb ρ) h1) := by
  refine PE.wk (pe_or ha hb) fun σ H Q hq => ?_
  obtain ⟨θ, ρ, h, en, hr, a⟩ := hq
  refine seqE en hr a fun d h1 v θ1 H1 e1 x1 en1 hr1 r1 a1 => ?_
  cases r1 with
  | bl c => cases c with
    | false => exact ⟨false, rfl, iteF ⟨θ1, ρ, h1, en1, hr1, a1⟩⟩
    | true => exact ⟨true, rfl, iteT (After.val a1 hr1 (.bl _))⟩
  | _ => exact False.elim a1
theorem st_and {a b : Expr} {rest : List Expr} {pos : Pos} {ma mb : Ev → AH → R D} (ha : PT X a (tMT X.K E fun ρ h => (ma ρ h).bind truR)) (hb : PW X (.BoolOp .And (b :: rest) pos) (tMT X.K E fun ρ h => (mb ρ h).bind truR)) :
    PW X (.BoolOp .And (a :: b :: rest) pos) (tMT X.K E fun ρ h => ((ma ρ h).bind fun x h1 => andR x (mb ρ) h1).bind truR) := by
  refine ⟨fun wh pins s σ H Q I hq => (pw_and ha hb).run wh pins s σ H Q I ?_⟩
  obtain ⟨θ, ρ, h, en, hr, a⟩ := hq
  refine ⟨θ, ρ, h, en, hr, ?_⟩
  show AfterT X.K θ H E ((ma ρ h).bind truR) _
  cases q : ma ρ h with
  | bad => simp only [q, R.bind_bad] at a; exact a
  | exc c fs h' => simp only [q, R.bind_exc] at a; exact a
  | ok d h1 =>
    simp only [q, R.bind_ok] at a
    cases d with
    | bl c =>
      intro θ1 H1 x1 hr1
      cases c with
      | true => exact iteT ⟨θ1, ρ, h1, en.mono x1, hr1, AfterT.ext a x1⟩
      | false => exact iteF (a θ1 H1 x1 hr1)
    | _ => exact False.elim a
theorem st_or {a b : Expr} {rest : List Expr} {pos : Pos} {ma mb : Ev → AH → R D} (ha : PT X a (tMT X.K E fun ρ h => (ma ρ h).bind truR)) (hb : PW X (.BoolOp .Or (b :: rest) pos) (tMT X.K E fun ρ h => (mb ρ h).bind truR)) :
    PW X (.BoolOp .Or (a :: b :: rest) pos) (tMT X.K E fun ρ h => ((ma ρ h).bind fun x h1 => orR x (mb ρ) h1).bind truR) := by
  refine ⟨fun wh pins s σ H Q I hq => (pw_or ha hb).run wh pins s σ H Q I ?_⟩
  obtain ⟨θ, ρ, h, en, hr, a⟩ := hq
  refine ⟨θ, ρ, h, en, hr, ?_⟩
  show AfterT X.K θ H E ((ma ρ h).bind truR) _
  cases q : ma ρ h with
  | bad => simp only [q, R.bind_bad] at a; exact a
  | exc c fs h' => simp only [q, R.bind_exc] at a; exact a
  | ok d h1 =>
    simp only [q, R.bind_ok] at a
    cases d with
    | bl c =>
      intro θ1 H1 x1 hr1
      cases c with
      | false => exact iteF ⟨θ1, ρ, h1, en.mono x1, hr1, AfterT.ext a x1⟩
      | true => exact iteT (a θ1 H1 x1 hr1)
    | _ => exact False.elim a
theorem se_ife {c x y : Expr} {pos : Pos} {mt ma mb : Ev → AH → R D} (ht : PT X c (tMT X.K E fun ρ h => (mt ρ h).bind truR)) (ha : PE X x (tM X.K E ma)) (hb : PE X y (tM X.K E mb)) :
    PE X (.IfExp c x y pos) (tM X.K E fun ρ h => (mt ρ h).bind fun d h1 => match truD h1 d with
      | some true => ma ρ h1
      | some false => mb ρ h1
      | none => .bad) := by
  refine PE.wk (pe_ifExp ht ha hb) fun σ H Q hq => ?_
  obtain ⟨θ, ρ, h, en, hr, a⟩ := hq
  refine ⟨θ, ρ, h, en, hr, ?_⟩
  show AfterT X.K θ H E ((mt ρ h).bind truR) _
  cases q : mt ρ h with
  | bad => simp only [q, R.bind_bad] at a; exact False.elim a
  | exc c fs h' => simp only [q, R.bind_exc] at a; exact a
  | ok d h1 =>
    simp only [q, R.bind_ok] at a
    show AfterT X.K θ H E (truR d h1) _
    unfold truR
    cases q2 : truD h1 d with
    | none => rw [q2] at a; exact False.elim a
    | some b =>
      rw [q2] at a
      intro θ1 H1 x1 hr1
      cases b with
      | true => exact iteT ⟨θ1, ρ, h1, en.mono x1, hr1, After.ext a x1⟩
      | false => exact iteF ⟨θ1, ρ, h1, en.mono x1, hr1, After.ext a x1⟩
end
end Mp

set_option Elab.async false
set_option linter.all false
set_option autoImplicit false
set_option maxRecDepth 100000
set_option maxHeartbeats 4000000
namespace Mp
open PySem PySem.Spec L2
section
variable {X : Cx} {M : Mdl} {E : XW} {N : List Str} {sc : Scope}
/-! ### argument lists, displays -/
theorem sa_nil : PA X [] (tML X.K E fun _ h => .ok [] h) := by
  refine PA.wk pa_nil fun σ H Q hq => ?_
  obtain ⟨θ, ρ, h, en, hr, a⟩ := hq
  exact a [] θ H Ext.refl hr .nil
theorem sa_cons {e : Expr} {es : List Expr} {ma : Ev → AH → R D} {mb : Ev → AH → R (List D)} (hs : notStar e = true) (ha : PE X e (tM X.K E ma)) (hb : PA X es (tML X.K E mb)) :
    PA X (e :: es) (tML X.K E fun ρ h => (ma ρ h).bind fun x h1 => (mb ρ h1).bind fun xs h2 => .ok (x :: xs) h2) := by
  refine PA.wk (pa_cons ha hb (starEach_ns hs)) fun σ H Q hq => ?_
  obtain ⟨θ, ρ, h, en, hr, a⟩ := hq
  refine seqEL en hr a fun d h1 v θ1 H1 e1 x1 en1 hr1 r1 a1 => ?_
  exact seqLL en1 hr1 a1 fun ds h2 vs θ2 H2 e2 x2 en2 hr2 r2 a2 => a2 (v :: vs) θ2 H2 Ext.refl hr2 (.cons (r1.mono x2) r2)
theorem se_tup {es : List Expr} {k : Nat} {pos : Pos} {ma : Ev → AH → R (List D)} (ha : PA X es (tML X.K E ma)) : PE X (.Tuple es k pos) (tM X.K E fun ρ h => (ma ρ h).bind fun ds h1 => okb (decide (ds.length ≤ sizeLine)) (.ok (.tup ds) h1)) := by
  refine PE.wk (pe_tup ha) fun σ H Q hq => ?_
  obtain ⟨θ, ρ, h, en, hr, a⟩ := hq
  refine seqLE en hr a fun ds h1 vs θ1 H1 e1 x1 en1 hr1 r1 a1 => ?_
  obtain ⟨c, a1⟩ := After.okb a1
  exact ⟨by rw [← r1.len]; exact of_decide_eq_true c, fun p hp => newT_ok hr1 r1 a1 hp⟩
theorem se_lst {m : Bool} {es : List Expr} {pos : Pos} {ma : Ev → AH → R (List D)} (ha : PA X es (tML X.K E ma)) : PE X (.List es pos) (tM X.K E fun ρ h => (ma ρ h).bind fun ds h1 => okb (decide (ds.length ≤ sizeLine)) (newL m ds h1)) := by
  refine PE.wk (pe_lst ha) fun σ H Q hq => ?_
  obtain ⟨θ, ρ, h, en, hr, a⟩ := hq
  refine seqLE en hr a fun ds h1 vs θ1 H1 e1 x1 en1 hr1 r1 a1 => ?_
  obtain ⟨c, a1⟩ := After.okb a1
  exact ⟨by rw [← r1.len]; exact of_decide_eq_true c, fun p hp => newL_ok hr1 r1 a1 hp⟩
theorem se_dic0 {pos : Pos} : PE X (.Dict [] [] pos) (tM X.K E fun _ h => .ok (.dic [] []) h) := by
  refine PE.wk pe_dnewK fun σ H Q hq => ?_
  obtain ⟨θ, ρ, h, en, hr, a⟩ := hq
  exact fun p hp => a (.ref p) θ _ (Ext.laid hp) (hr.laid hp) (.dic (vs := []) ⟨upd_same, hr.fresh hp⟩ rfl .nil)
theorem constOk_rep {c : Const} {d : D} (h : constOk c d = true) : ∃ v : V, (∀ j pos, PE X (.Constant c j pos) (tC v)) ∧ ∀ K θ H, Rep K θ H d v := by
  cases c with
  | none => cases d <;> first | exact ⟨.non, fun _ _ => pe_non, fun _ _ _ => .non⟩ | cases h
  | bool a => cases d with
    | bl b =>
      have e : a = b := by simpa [constOk] using h
      subst e
      exact ⟨.bl a, fun _ _ => pe_bl, fun _ _ _ => .bl _⟩
    | _ => cases h
  | int a => cases d with
    | int b =>
      have e : a = b := by simpa [constOk] using h
      subst e
      exact ⟨.int a, fun _ _ => pe_int, fun _ _ _ => .int _⟩
    | _ => cases h
  | str a => cases d with
    | str b =>
      have e : a = b := by simpa [constOk] using h
      subst e
      exact ⟨.str a, fun _ _ => pe_str, fun _ _ _ => .str _⟩
    | _ => cases h
  | _ => cases d <;> cases h
theorem se_k {c : Const} {d : D} {j : Nat} {pos : Pos} (h : constOk c d = true) : PE X (.Constant c j pos) (tM X.K E fun _ h => .ok d h) := by
  obtain ⟨v, h1, h2⟩ := constOk_rep (X := X) h
  refine PE.wk (h1 j pos) fun σ H Q hq => ?_
  obtain ⟨θ, ρ, h, en, hr, a⟩ := hq
  exact a.val hr (h2 _ _ _)
theorem se_dic1 {k : Str} {c : Const} {d : D} {j1 j2 : Nat} {p1 p2 pos : Pos} (h : constOk c d = true) : PE X (.Dict [some (.Constant (.str k) j1 p1)] [.Constant c j2 p2] pos) (tM X.K E fun _ h => .ok (.dic [.inr k] [d]) h) := by
  obtain ⟨v, h1, h2⟩ := constOk_rep (X := X) h
  refine PE.wk (pe_disp (pps_cons pe_str (h1 j2 p2) pps_nil) rfl rfl (fun z => nomatch z) (by simp)) fun σ H Q hq => ?_
  obtain ⟨θ, ρ, h, en, hr, a⟩ := hq
  intro p hp
  refine ⟨upd_same, [(.inr k, v)], rfl, by simp, ?_⟩
  rw [upd_upd]
  exact a (.ref p) θ _ (Ext.laid hp) (hr.laid hp) (.dic (vs := [v]) ⟨upd_same, hr.fresh hp⟩ rfl (.cons (h2 _ _ _) .nil))
/-! ### names -/
theorem se_v {i : Nat} {x : Str} {pos : Pos} (hs : X.env.scope = sc) (h1 : X.N[i]? = some x) (h2 : visB sc x = true) (h3 : nmOk x = true) : PE X (.Name x pos) (tM X.K E fun ρ h => match ρ[i]? with
    | some (some d) => .ok d h
    | _ => .bad) := by
  have n1 := Bool.and_eq_true_iff.mp h3
  have n2 := Bool.and_eq_true_iff.mp n1.1
  have hv : Vis X.env.scope x := by
    rw [hs]
    unfold visB at h2
    split at h2
    · exact .inl (by assumption)
    · exact .inr (.inl (by assumption))
    · exact .inr (.inr (by assumption))
    · cases h2
  refine PE.wk (pe_var h1 hv (by simpa using n2.1) (by simpa using n2.2)) fun σ H Q hq => ?_
  obtain ⟨θ, ρ, h, en, hr, a⟩ := hq
  cases q : ρ[i]? with
  | none => simp only [q] at a; exact False.elim a
  | some o => cases o with
    | none => simp only [q] at a; exact False.elim a
    | some d =>
      simp only [q] at a
      obtain ⟨v, e, r⟩ := en.2 i d q
      exact ⟨v, e, a.val hr r⟩
theorem gl_of (hs : X.env.scope = sc) {x : Str} (h : glB sc x = true) : Gl X x := by
  show X.env.scope.names.lookup x = _
  rw [hs]
  exact of_decide_eq_true h
theorem se_g (G : Good X M E) {x : Str} {d : D} {pos : Pos} (hs : X.env.scope = sc) (h1 : glB sc x = true) (h2 : nmOk x = true) (h3 : (match M.gl x with
    | some e => D.eqb d e
    | none => false) = true) : PE X (.Name x pos) (tM X.K E fun _ h => .ok d h) := by
  have n1 := Bool.and_eq_true_iff.mp h2
  have n2 := Bool.and_eq_true_iff.mp n1.1
  cases q : M.gl x with
  | none => rw [q] at h3; cases h3
  | some e =>
    rw [q] at h3
    have := D.eqb_eq _ _ h3
    subst this
    obtain ⟨u, v, m, r, rp⟩ := G.glo x d q
    refine PE.wk (pe_glob (gl_of hs h1) m r (by simpa using n2.1)) fun σ H Q hq => ?_
    obtain ⟨θ, ρ, h, en, hr, a⟩ := hq
    exact a.val hr (rp _ _)
theorem se_t (G : Good X M E) {x : Str} {n : String} {pos : Pos} (hs : X.env.scope = sc) (h1 : glB sc x = true) (h2 : nmOk x = true) (h3 : M.fr x = true) (h4 : bootBuiltins x = some (.type n)) : PE X (.Name x pos) (tM X.K E fun _ h => .ok (.ty n) h) := by
  have n1 := Bool.and_eq_true_iff.mp h2
  have n2 := Bool.and_eq_true_iff.mp n1.1
  refine PE.wk (pe_bltn (v := .ty n) (gl_of hs h1) (G.free x h3) h4 rfl (of_decide_eq_true n1.2) (by simpa using n2.1)) fun σ H Q hq => ?_
  obtain ⟨θ, ρ, h, en, hr, a⟩ := hq
  exact a.val hr (.ty _)
/-! ### calls -/
theorem Bi.rule (G : Good X M E) (b : Bi) : CallR X b.val (rLM X.K E b.run) := by
  cases b with
  | len => exact callS_len
  | isi => exact callS_isi
  | int => exact callS_int
  | abs => exact callS_abs
  | list m => exact callS_list G.hh
  | tuple => exact callS_tuple
  | all => exact callS_all G.calm
  | any => exact callS_any G.calm
  | repr => exact callS_repr G.sys G.gds G.hu
  | str => exact callS_str
  | sorted m => exact callS_sorted
theorem boot_list_ : bootBuiltins "list" = some (.type "list") := by decide +kernel
theorem boot_sorted_ : bootBuiltins "sorted" = some (.builtin "sorted") := by decide +kernel
theorem Bi.boot (b : Bi) : bootBuiltins b.name = some b.val := by
  cases b with
  | list m => exact boot_list_
  | sorted m => exact boot_sorted_
  | _ => decide +kernel
theorem tCB_of {f : List D → AH → R D} {ma : Ev → AH → R (List D)} {σ : L2.St} {H : Hp} {Q : VK} (hq : tM X.K E (fun ρ h => (ma ρ h).bind fun ds h1 => f ds h1) σ H Q) : tCB (rLM X.K E f) (tML X.K E ma) σ H Q := by
  obtain ⟨θ, ρ, h, en, hr, a⟩ := hq
  exact seqLE en hr a fun ds h1 vs θ1 H1 e1 x1 en1 hr1 r1 a1 => ⟨θ1, h1, ds, hr1, r1, a1⟩
theorem se_bi (G : Good X M E) {b : Bi} {e : Expr} {es : List Expr} {p pos : Pos} {c : Mp.E} (hs : X.env.scope = sc) (h1 : glB sc b.name = true) (h2 : nmOk b.name = true) (h3 : M.fr b.name = true) (hc : chkA M N c sc (e :: es) = true) (ha : PA X (e :: es) (tML X.K E (evs M c))) :
    PE X (.Call (.Name b.name p) (e :: es) [] pos) (tM X.K E fun ρ h => (evs M c ρ h).bind fun ds h1 => b.run ds h1) := by
  have n1 := Bool.and_eq_true_iff.mp h2
  have n2 := Bool.and_eq_true_iff.mp n1.1
  have s1 : starEach (e :: es) X.env = (false, eval e X.env) :: starEach es X.env := by
    cases c with
    | cons a r =>
      have h' : (notStar e && (chkE M N a sc e && chkA M N r sc es)) = true := hc
      exact starEach_ns (Bool.and_eq_true_iff.mp h').1
    | _ => cases hc
  have s2 : (backTo pos (starEach es X.env)).any (·.1) = false := by
    have z := chkA_len hc (pos := pos) (env := X.env)
    rw [s1] at z
    exact (Bool.or_eq_false_iff.mp (show (false || (backTo pos (starEach es X.env)).any (·.1)) = false from z)).2
  have hb := b.boot
  have R := Bi.rule G b
  have fin : ∀ σ H Q, tM X.K E (fun ρ h => (evs M c ρ h).bind fun ds h1 => b.run ds h1) σ H Q → tCB (rLM X.K E b.run) (tML X.K E (evs M c)) σ H Q := fun σ H Q hq => tCB_of hq
  cases b with
  | len => exact PE.wk (pe_callB R (gl_of hs h1) (G.free _ h3) hb ha (of_decide_eq_true n1.2) (by simpa using n2.1) s1 s2) fin
  | isi => exact PE.wk (pe_callB R (gl_of hs h1) (G.free _ h3) hb ha (of_decide_eq_true n1.2) (by simpa using n2.1) s1 s2) fin
  | int => exact PE.wk (pe_callTy R (gl_of hs h1) (G.free _ h3) hb ha (of_decide_eq_true n1.2) (by simpa using n2.1) s1 s2) fin
  | str => exact PE.wk (pe_callTy R (gl_of hs h1) (G.free _ h3) hb ha (of_decide_eq_true n1.2) (by simpa using n2.1) s1 s2) fin
  | abs => exact PE.wk (pe_callB R (gl_of hs h1) (G.free _ h3) hb ha (of_decide_eq_true n1.2) (by simpa using n2.1) s1 s2) fin
  | list m => exact PE.wk (pe_callTy R (gl_of hs h1) (G.free _ h3) hb ha (of_decide_eq_true n1.2) (by simpa using n2.1) s1 s2) fin
  | tuple => exact PE.wk (pe_callTy R (gl_of hs h1) (G.free _ h3) hb ha (of_decide_eq_true n1.2) (by simpa using n2.1) s1 s2) fin
  | all => exact PE.wk (pe_callB R (gl_of hs h1) (G.free _ h3) hb ha (of_decide_eq_true n1.2) (by simpa using n2.1) s1 s2) fin
  | any => exact PE.wk (pe_callB R (gl_of hs h1) (G.free _ h3) hb ha (of_decide_eq_true n1.2) (by simpa using n2.1) s1 s2) fin
  | sorted m => exact PE.wk (pe_callB R (gl_of hs h1) (G.free _ h3) hb ha (of_decide_eq_true n1.2) (by simpa using n2.1) s1 s2) fin
  | repr => exact PE.wk (pe_callB R (gl_of hs h1) (G.free _ h3) hb ha (of_decide_eq_true n1.2) (by simpa using n2.1) s1 s2) fin
/-- a def of ours is called, its arguments bound -/
theorem run_own (G : Good X M E) {f : Str} {a : Addr} {fd : FuncData} {ps : List Str} (F : FnIs X.prog X.w X.K X.mg X.base M f a fd ps) {pins : List (Addr × Obj)} {σ : L2.St} {H : Hp} {s : Shared} {Q : VK} {args : Args} {us : List Value} {vs : List V} {θ : Th} {h : AH} {ds : List D} (I : Inv X pins σ H s)
    (hb : BindsTo s fd args (ps.zip us)) (r : Vals vs us) (hr : HRep X.K θ H h) (rs : Reps X.K θ H ds vs) (af : After X.K θ H E (M.Φ f ds h) Q) : wpAny (model X.prog X.w) X.A (call (.ref a) args.pos args.kw) (EP X pins σ Q) X.xe s := by
  refine wpAny_call (codeAny_mono (F.run X.A X.stack s H args us vs θ h ds Q E G.room G.gds I.env0 hb r hr rs af) fun r s' hq => ?_)
  cases r with
  | error e => exact G.pass pins σ H s e s' I hq
  | ok fl => cases fl with
    | ret u => exact I.after hq
    | next => exact False.elim hq
    | brk => exact False.elim hq
    | cont => exact False.elim hq
theorem nobad {K : PySem.W.Frag} {θ : Th} {H : Hp} {r : R D} {Q : VK} (a : After K θ H E r Q) : r ≠ .bad := fun z => by rw [z] at a; exact a
theorem se_call (G : Good X M E) {f : Str} {es : List Expr} {p pos : Pos} {c : Mp.E} (hs : X.env.scope = sc) (h1 : glB sc f = true) (h2 : nmOk f = true) (h3 : (M.tb f).isSome = true) (hc : chkA M N c sc es = true) (ha : PA X es (tML X.K E (evs M c))) :
    PE X (.Call (.Name f p) es [] pos) (tM X.K E fun ρ h => (evs M c ρ h).bind fun ds h1 => M.Φ f ds h1) := by
  have n1 := Bool.and_eq_true_iff.mp h2
  have n2 := Bool.and_eq_true_iff.mp n1.1
  obtain ⟨⟨a, fd, ps⟩, e⟩ := Option.isSome_iff_exists.mp h3
  have F := G.fns f a fd ps e
  refine ⟨fun pins s σ H Q I hq => ?_⟩
  refine wpAny_Call_Name_kw (ld_glob I (gl_of hs h1) F.mgf ?_ (by simpa using n2.1))
  obtain ⟨θ, ρ, h, en, hr, af⟩ := hq
  have fin : ∀ {us : List Value} {s1 : Shared} {vs : List V} {H1 : Hp} {θ1 : Th} {h1 : AH} {ds : List D}, Inv X pins σ H1 s1 → Vals vs us → HRep X.K θ1 H1 h1 → Reps X.K θ1 H1 ds vs → After X.K θ1 H1 E (M.Φ f ds h1) Q → wpAny (model X.prog X.w) X.A (call (.ref a) us) (EP X pins σ Q) X.xe s1 := by
    intro us s1 vs H1 θ1 h1 ds I1 rv hr1 rs af
    have l := F.len ds h1 (nobad af)
    have hb := F.bd s1 us I1.kIn (by rw [List.append_nil, ← rv.length, ← rs.len, l])
    rw [List.append_nil] at hb
    exact run_own G F (args := ⟨us, []⟩) I1 hb rv hr1 rs af
  cases es with
  | nil =>
    have ec : c = .nil := by cases c <;> first | rfl | cases hc
    subst ec
    exact PySem.W.callWith_K0 I.kIn F.kp (fin (us := []) (vs := []) (ds := []) I .nil hr .nil af)
  | cons e0 es =>
    have s1 : starEach (e0 :: es) X.env = (false, eval e0 X.env) :: starEach es X.env := by
      cases c with
      | cons a r =>
        have h' : (notStar e0 && (chkE M N a sc e0 && chkA M N r sc es)) = true := hc
        exact starEach_ns (Bool.and_eq_true_iff.mp h').1
      | _ => cases hc
    have s2 : (backTo pos (starEach es X.env)).any (·.1) = false := by
      have z := chkA_len hc (pos := pos) (env := X.env)
      rw [s1] at z
      exact (Bool.or_eq_false_iff.mp (show (false || (backTo pos (starEach es X.env)).any (·.1)) = false from z)).2
    refine PySem.W.callWith_K (h₀ := X.base) I.ok.mod.kin F.kp (thn (ha.run pos pins s σ H _ I (seqLE en hr af fun ds h1 vs θ1 H1 e1 x1 en1 hr1 r1 a1 => (⟨θ1, h1, ds, hr1, r1, a1⟩ : rLM X.K E (M.Φ f) vs H1 Q))) fun us s1 ⟨vs, H1, I1, rv, θ1, h1, ds, hr1, rs, a1⟩ => ⟨I1.kIn, ?_⟩) s1 s2
    exact fin I1 rv hr1 rs a1
end
end Mp

set_option Elab.async false
set_option linter.all false
set_option autoImplicit false
set_option maxRecDepth 100000
set_option maxHeartbeats 4000000
namespace Mp
open PySem PySem.Spec L2
section
variable {X : Cx} {M : Mdl} {E : XW} {N : List Str} {sc : Scope}
/-- each expression by itself -/
def PEs (X : Cx) (E : XW) (M : Mdl) : Mp.E → List Expr → Prop
  | .cons a b, e :: es => PE X e (tM X.K E (ev M a)) ∧ PEs X E M b es
  | _, _ => True
def PTl (X : Cx) (E : XW) (M : Mdl) : Mp.E → List Expr → Prop
  | .cons a b, e :: es => PT X e (tMT X.K E fun ρ h => (ev M a ρ h).bind truR) ∧ PTl X E M b es
  | _, _ => True
/-! ### keywords -/
theorem sk_of : ∀ {kws : List Keyword} {ks : List Str} {c : Mp.E}, kws.map (·.arg) = ks.map some → chkA M N c sc (kws.map (·.value)) = true →
    PEs X E M c (kws.map (·.value)) → (∀ pos, (backToKw pos (keywordEach kws X.env)).all (·.1.isSome) = true) ∧ (∀ pos, (backToKw pos (keywordEach kws X.env)).filterMap (·.1) = ks) ∧
    (∀ pos, (backToKw pos (keywordEach kws X.env)).any (·.1.isNone) = false) ∧ PK X kws (tML X.K E (evs M c))
  | [], [], c, _, hc, _ => by
    have ec : c = .nil := by cases c <;> first | rfl | cases hc
    subst ec
    refine ⟨fun _ => rfl, fun _ => rfl, fun _ => rfl, ⟨fun pos pins s σ H Q I hq => pk_nil.run pos pins s σ H Q I ?_⟩⟩
    obtain ⟨θ, ρ, h, en, hr, a⟩ := hq
    exact a [] θ H Ext.refl hr .nil
  | [], _ :: _, _, e, _, _ => by cases e
  | _ :: _, [], _, e, _, _ => by cases e
  | ⟨nm, v, kp⟩ :: kws, k :: ks, c, e, hc, F => by
    have e1 : nm = some k ∧ kws.map (·.arg) = ks.map some := by simpa using e
    obtain ⟨rfl, e2⟩ := e1
    cases c with
    | cons a b =>
      have hc' : (notStar v && (chkE M N a sc v && chkA M N b sc (kws.map (·.value)))) = true := hc
      have h1 := Bool.and_eq_true_iff.mp hc'
      have h2 := Bool.and_eq_true_iff.mp h1.2
      obtain ⟨pe, F⟩ := (show PE X v (tM X.K E (ev M a)) ∧ PEs X E M b (kws.map (·.value)) from F)
      obtain ⟨i1, i2, i3, i4⟩ := sk_of (c := b) e2 h2.2 F
      refine ⟨fun pos => ?_, fun pos => ?_, fun pos => ?_, ⟨fun pos pins s σ H Q I hq => (pk_cons pe i4).run pos pins s σ H Q I ?_⟩⟩
      · show (true && (backToKw pos (keywordEach kws X.env)).all (·.1.isSome)) = true
        rw [i1]; rfl
      · show k :: (backToKw pos (keywordEach kws X.env)).filterMap (·.1) = k :: ks
        rw [i2]
      · show (false || (backToKw pos (keywordEach kws X.env)).any (·.1.isNone)) = false
        rw [i3]; rfl
      · obtain ⟨θ, ρ, h, en, hr, a⟩ := hq
        refine seqEL en hr a fun d h1 v θ1 H1 e1 x1 en1 hr1 r1 a1 => ?_
        exact seqLL en1 hr1 a1 fun ds h2 vs θ2 H2 e2 x2 en2 hr2 r2 a2 => a2 (v :: vs) θ2 H2 Ext.refl hr2 (.cons (r1.mono x2) r2)
    | _ => cases hc
theorem se_callk (G : Good X M E) {f : Str} {ks : List Str} {kws : List Keyword} {p pos : Pos} {c : Mp.E} (hs : X.env.scope = sc) (h1 : glB sc f = true) (h2 : nmOk f = true) (h3 : (M.tb f).isSome = true) (h4 : kwOk ks kws = true) (hc : chkA M N c sc (kws.map (·.value)) = true)
    (F' : PEs X E M c (kws.map (·.value))) :
    PE X (.Call (.Name f p) [] kws pos) (tM X.K E fun ρ h => (evs M c ρ h).bind fun ds h1 => match M.kt f ks with
      | some perm => M.Φ f (perm.map fun i => ds.getD i .non) h1
      | none => .bad) := by
  have n1 := Bool.and_eq_true_iff.mp h2
  have n2 := Bool.and_eq_true_iff.mp n1.1
  obtain ⟨⟨a, fd, ps⟩, e⟩ := Option.isSome_iff_exists.mp h3
  have F := G.fns f a fd ps e
  obtain ⟨i1, i2, i3, i4⟩ := sk_of (E := E) (of_decide_eq_true h4) hc F'
  refine ⟨fun pins s σ H Q I hq => ?_⟩
  refine wpAny_Call_Name_kw (ld_glob I (gl_of hs h1) F.mgf ?_ (by simpa using n2.1))
  obtain ⟨θ, ρ, h, en, hr, af⟩ := hq
  refine PySem.W.callWith_KW0 (h₀ := X.base) I.ok.mod.kin F.kp (i1 pos) (thn (i4.run pos pins s σ H _ I (seqLE en hr af fun ds h1 vs θ1 H1 e1 x1 en1 hr1 r1 a1 => (⟨θ1, h1, ds, hr1, r1, a1, by
      have z : evs M c ρ h = .ok ds h1 := e1
      exact z⟩ : ∃ θ1 h1 ds, HRep X.K θ1 H1 h1 ∧ Reps X.K θ1 H1 ds vs ∧ After X.K θ1 H1 E (match M.kt f ks with
        | some perm => M.Φ f (perm.map fun i => ds.getD i .non) h1
        | none => .bad) Q ∧ evs M c ρ h = .ok ds h1))) fun ws s1 ⟨vs, H1, I1, rv, θ1, h1, ds, hr1, rs, a1, eds⟩ => ⟨I1.kIn, ?_⟩) ?_
  · rw [i2]
    cases q : M.kt f ks with
    | none => rw [q] at a1; exact False.elim a1
    | some perm =>
      rw [q] at a1
      obtain ⟨pl, kb⟩ := F.kb ks perm q
      have evl : ∀ (c : Mp.E) (es : List Expr) (h : AH) (ds : List D) (h1 : AH), chkA M N c sc es = true → evs M c ρ h = .ok ds h1 → ds.length = es.length := by
        intro c
        induction c with
        | nil => intro es h ds h1 hc e; cases es <;> cases hc; cases e; rfl
        | cons a b _ ih =>
          intro es h ds h1 hc e
          cases es with
          | nil => cases hc
          | cons x es =>
            obtain ⟨d, h2, _, e2⟩ := RD.bind_ok (show (ev M a ρ h).bind (fun x h1 => (evs M b ρ h1).bind fun xs h2 => R.ok (x :: xs) h2) = R.ok ds h1 from e)
            obtain ⟨dd, h3, e3, e4⟩ := RD.bind_ok e2
            cases e4
            have hc' : (notStar x && (chkE M N a sc x && chkA M N b sc es)) = true := hc
            simp [ih es h2 dd h1 (Bool.and_eq_true_iff.mp (Bool.and_eq_true_iff.mp hc').2).2 e3]
        | _ => intro es h ds h1 hc e; cases hc
      have l1 := evl c _ h ds h1 hc eds
      have lk : kws.length = ks.length := by
        have := congrArg List.length (of_decide_eq_true h4 : kws.map (·.arg) = ks.map some)
        simpa using this
      have lw : ws.length = ks.length := by rw [← rv.length, ← rs.len, l1, List.length_map, lk]
      have rvs : Vals (perm.map fun i => vs.getD i .non) (perm.map fun i => ws.getD i .none) := by
        have one : ∀ i, RelV (vs.getD i .non) (ws.getD i .none) := by
          intro i
          rw [List.getD_eq_getElem?_getD, List.getD_eq_getElem?_getD]
          cases z : vs[i]? with
          | none => rw [Vals.none_of rv z]; rfl
          | some v => obtain ⟨u, z1, z2⟩ := rv.get z; rw [z1]; exact z2
        clear pl kb a1 q
        induction perm with
        | nil => exact .nil
        | cons i is ih => exact .cons (one i) ih
      have rds : Reps X.K θ1 H1 (perm.map fun i => ds.getD i .non) (perm.map fun i => vs.getD i .non) := by
        have one : ∀ i, Rep X.K θ1 H1 (ds.getD i .non) (vs.getD i .non) := by
          intro i
          rw [List.getD_eq_getElem?_getD, List.getD_eq_getElem?_getD]
          cases z : ds[i]? with
          | none =>
            have : vs[i]? = none := by rw [List.getElem?_eq_none_iff] at z ⊢; rw [← rs.len]; exact z
            rw [this]; exact .non
          | some d => obtain ⟨v, z1, z2⟩ := rs.get z; rw [z1]; exact z2
        clear pl kb a1 q rvs
        induction perm with
        | nil => exact .nil
        | cons i is ih => exact .cons (one i) ih
      exact run_own G F (args := ⟨[], ks.zip ws⟩) I1 (kb s1 ws I1.kIn lw) rvs hr1 rds a1
  · show ((backTo pos (starEach [] X.env)).any (·.1) || (backToKw pos (keywordEach kws X.env)).any (·.1.isNone)) = false
    rw [i3]; rfl
/-! ### methods, places, slices -/
theorem chkA_first {c : Mp.E} {e : Expr} {es : List Expr} (hc : chkA M N c sc (e :: es) = true) : notStar e = true := by
  cases c with
  | cons a r => exact (Bool.and_eq_true_iff.mp (show (notStar e && (chkE M N a sc e && chkA M N r sc es)) = true from hc)).1
  | _ => cases hc
theorem tBM_of {T : String} {t : Mt} {mo : Ev → AH → R D} {ma : Ev → AH → R (List D)} {σ : L2.St} {H : Hp} {Q : VK} (ht : ∀ θ H h d v, HRep X.K θ H h → Rep X.K θ H d v → t.rcv h d = true → tyV X.K T v H) (hq : tM X.K E (fun ρ h => (mo ρ h).bind fun x h1 => match t.rcv h1 x with
      | true => (ma ρ h1).bind fun ds h2 => t.run x ds h2
      | false => .bad) σ H Q) : tBM X.K T (rmM X.K E t.run) (tM X.K E mo) (tML X.K E ma) σ H Q := by
  obtain ⟨θ, ρ, h, en, hr, a⟩ := hq
  refine seqE en hr a fun d h1 v θ1 H1 e1 x1 en1 hr1 r1 a1 => ?_
  cases q : t.rcv h1 d with
  | false => rw [q] at a1; exact False.elim a1
  | true =>
    rw [q] at a1
    refine ⟨ht θ1 H1 h1 d v hr1 r1 q, ?_⟩
    exact seqLE en1 hr1 a1 fun ds h2 vs θ2 H2 e2 x2 en2 hr2 r2 a2 => ⟨θ2, h2, d, ds, hr2, r1.mono x2, r2, a2⟩
theorem se_mt {t : Mt} {o e : Expr} {es : List Expr} {ap cp : Pos} {c : Mp.E} {mo : Ev → AH → R D} (hl : (ap.endLine == cp.line) = true) (hn : (e :: es).length < 29) (ho : abOk o = true) (hc : chkA M N c sc (e :: es) = true) (ha : PE X o (tM X.K E mo)) (hb : PA X (e :: es) (tML X.K E (evs M c))) :
    PE X (.Call (.Attribute o t.name ap) (e :: es) [] cp) (tM X.K E fun ρ h => (mo ρ h).bind fun x h1 => match t.rcv h1 x with
      | true => (evs M c ρ h1).bind fun ds h2 => t.run x ds h2
      | false => .bad) := by
  have s1 := starEach_ns (es := es) (env := X.env) (chkA_first hc)
  have s2 : (backTo cp (starEach es X.env)).any (·.1) = false := by
    have z := chkA_len hc (pos := cp) (env := X.env)
    rw [s1] at z
    exact (Bool.or_eq_false_iff.mp (show (false || (backTo cp (starEach es X.env)).any (·.1)) = false from z)).2
  have s3 : ((backTo cp (starEach (e :: es) X.env)).all (fun x => !x.1) && (backToKw cp (keywordEach [] X.env)).all (fun x => x.1.isSome)
      && decide ((e :: es).length + ([] : List Keyword).length + (if ([] : List Keyword).isEmpty then 0 else 1) < 30)) = true := by
    have z := chkA_len hc (pos := cp) (env := X.env)
    have z2 : (backTo cp (starEach (e :: es) X.env)).all (fun x => !x.1) = true := by
      rw [List.all_eq_true]
      intro x hx
      rw [List.any_eq_false] at z
      simpa using z x hx
    rw [z2]
    show (true && true && decide ((e :: es).length + 0 + 0 < 30)) = true
    simp
    have : es.length + 1 < 29 := hn
    omega
  cases t with
  | join =>
    exact PE.wk (pe_bm PySem.F.plainAttrs_str PySem.F.slot_str_join PySem.F.type_str_join mtS_join ha hb (attr_ns ho _ _) s3 hl s1 s2) fun σ H Q hq => tBM_of (t := .join) (fun θ H h d v hr r k => by
      cases r with
      | str z => rfl
      | _ => cases k) hq
  | split =>
    exact PE.wk (pe_bm PySem.F.plainAttrs_str PySem.F.slot_str_split PySem.F.type_str_split mtS_split ha hb (attr_ns ho _ _) s3 hl s1 s2) fun σ H Q hq => tBM_of (t := .split) (fun θ H h d v hr r k => by
      cases r with
      | str z => rfl
      | _ => cases k) hq
  | append =>
    exact PE.wk (pe_bm PySem.F.plainAttrs_list PySem.F.slot_list_append PySem.F.type_list_append mtS_append ha hb (attr_ns ho _ _) s3 hl s1 s2) fun σ H Q hq => tBM_of (t := .append) (fun θ H h d v hr r k => by
      obtain ⟨xs, q⟩ := Option.isSome_iff_exists.mp (show (lsD h d).isSome = true from k)
      obtain ⟨a, vs, rfl, h1, _⟩ := lsD_ok hr r q
      exact .inl ⟨rfl, vs, SqL.of h1⟩) hq
  | extend =>
    exact PE.wk (pe_bm PySem.F.plainAttrs_list PySem.F.slot_list_extend PySem.F.type_list_extend mtS_extend ha hb (attr_ns ho _ _) s3 hl s1 s2) fun σ H Q hq => tBM_of (t := .extend) (fun θ H h d v hr r k => by
      obtain ⟨xs, q⟩ := Option.isSome_iff_exists.mp (show (lsD h d).isSome = true from k)
      obtain ⟨a, vs, rfl, h1, _⟩ := lsD_ok hr r q
      exact .inl ⟨rfl, vs, SqL.of h1⟩) hq
theorem se_ix {x y : Expr} {pos : Pos} {ma mb : Ev → AH → R D} (hs : notSlice y = true) (ha : PE X x (tM X.K E ma)) (hb : PE X y (tM X.K E mb)) : PE X (.Subscript x y pos) (tM X.K E fun ρ h => (ma ρ h).bind fun x h1 => (mb ρ h1).bind fun y h2 => ixD x y h2) :=
  PE.wk (pe_ix ixS ha hb (plain_ix hs)) fun _ _ _ hq => tOp_of hq
/-- a slice's part -/
def AfterO (K : PySem.W.Frag) (θ : Th) (H : Hp) (E : XW) : R (Option Int) → (Option Int → Hp → Prop) → Prop
  | .ok o h', Q => ∀ θ' H', Ext θ H θ' H' → HRep K θ' H' h' → Q o H'
  | .exc c fs h', _ => ∀ vs θ' H', Ext θ H θ' H' → HRep K θ' H' h' → Repf K θ' H' fs vs → E c vs H'
  | .bad, _ => False
def tMO (K : PySem.W.Frag) (E : XW) (m : Ev → AH → R (Option Int)) : TO := fun σ H Q => ∃ θ ρ h, EnvRep K θ H σ ρ ∧ HRep K θ H h ∧ AfterO K θ H E (m ρ h) Q
theorem seqOE {K : PySem.W.Frag} {σ : L2.St} {H : Hp} {θ : Th} {ρ : Ev} {h : AH} {m : Ev → AH → R (Option Int)} {f : Option Int → AH → R D} {Q : VK} {Q' : Option Int → Hp → Prop} (e : EnvRep K θ H σ ρ) (hr : HRep K θ H h) (a : After K θ H E ((m ρ h).bind f) Q)
    (k : ∀ o h1 θ1 H1, m ρ h = .ok o h1 → Ext θ H θ1 H1 → EnvRep K θ1 H1 σ ρ → HRep K θ1 H1 h1 → After K θ1 H1 E (f o h1) Q → Q' o H1) : tMO K E m σ H Q' := by
  refine ⟨θ, ρ, h, e, hr, ?_⟩
  cases q : m ρ h with
  | ok d h1 =>
    rw [q] at a
    exact fun θ1 H1 x hr1 => k d h1 θ1 H1 q x (e.mono x) hr1 (After.ext a x)
  | exc c fs h1 => rw [q] at a; exact a
  | bad => rw [q] at a; exact a
theorem PO.wk {e : Option Expr} {t t' : TO} (h : PO X e t) (w : ∀ σ H Q, t' σ H Q → t σ H Q) : PO X e t' := ⟨fun pins s σ H Q I hq => h.run pins s σ H Q I (w σ H Q hq)⟩
theorem so_none : PO X none (tMO X.K E fun _ h => .ok none h) := PO.wk po_none fun σ H Q hq => by
  obtain ⟨θ, ρ, h, en, hr, a⟩ := hq
  exact a θ H Ext.refl hr
theorem so_some {e : Expr} {m : Ev → AH → R D} (h : PE X e (tM X.K E m)) : PO X (some e) (tMO X.K E fun ρ h => (m ρ h).bind fun d h => match d with
    | .int i => .ok (some i) h
    | _ => .bad) := PO.wk (po_some h) fun σ H Q hq => by
  obtain ⟨θ, ρ, h, en, hr, a⟩ := hq
  refine ⟨θ, ρ, h, en, hr, ?_⟩
  cases q : m ρ h with
  | ok d h1 =>
    simp only [q, R.bind_ok] at a
    intro v θ1 H1 x1 hr1 r1
    cases r1 with
    | int i => exact ⟨i, rfl, a θ1 H1 x1 hr1⟩
    | _ => exact False.elim a
  | exc c fs h1 => simp only [q, R.bind_exc] at a; exact a
  | bad => simp only [q, R.bind_bad] at a; exact a
theorem se_sl {m : Bool} {x : Expr} {lo hi : Option Expr} {p2 pos : Pos} {ma : Ev → AH → R D} {ml mh : Ev → AH → R (Option Int)} (ha : PE X x (tM X.K E ma)) (hl : PO X lo (tMO X.K E ml)) (hh : PO X hi (tMO X.K E mh)) :
    PE X (.Subscript x (.Slice lo hi none p2) pos) (tM X.K E fun ρ h => (ma ρ h).bind fun x h1 => (ml ρ h1).bind fun l h2 => (mh ρ h2).bind fun u h3 => slD m x l u h3) := by
  refine PE.wk (pe_slice (slS (m := m) (E := E)) ha hl hh) fun σ H Q hq => ?_
  obtain ⟨θ, ρ, h, en, hr, a⟩ := hq
  refine seqE en hr a fun d h1 v θ1 H1 e1 x1 en1 hr1 r1 a1 => ?_
  refine seqOE en1 hr1 a1 fun l h2 θ2 H2 e2 x2 en2 hr2 a2 => ?_
  exact seqOE en2 hr2 a2 fun u h3 θ3 H3 e3 x3 en3 hr3 a3 => ⟨θ3, h3, d, hr3, (r1.mono x2).mono x3, a3⟩
end
end Mp

set_option Elab.async false
set_option linter.all false
set_option autoImplicit false
set_option maxRecDepth 100000
set_option maxHeartbeats 4000000
namespace Mp
open PySem PySem.Spec L2
section
variable {X : Cx} {M : Mdl} {E : XW} {N : List Str} {sc : Scope}
theorem Reps.rev {K : PySem.W.Frag} {θ : Th} {H : Hp} : ∀ {ds : List D} {vs : List V}, Reps K θ H ds vs → Reps K θ H ds.reverse vs.reverse
  | _, _, .nil => .nil
  | _, _, .cons r t => by
    rw [List.reverse_cons, List.reverse_cons]
    exact (Reps.rev t).append (.cons r .nil)
/-! ### exceptions as values -/
theorem xnew_of {c : Str} {fs : List Str} {ds : List D} {vs : List V} {θ : Th} {H : Hp} {h : AH} {Q : VK} (hr : HRep X.K θ H h) (rs : Reps X.K θ H ds vs) (hl : ds.length = fs.length) (a : After X.K θ H E (.ok (.exc c fs.reverse ds.reverse) h) Q) : XNew (He.ga X.K c) fs vs H Q := by
  have lv : vs.length = fs.length := by rw [← rs.len]; exact hl
  refine ⟨fun f0 p hp => ?_, fun f0 p dx hp hd ne => ?_⟩
  · subst f0
    have d0 : ds = [] := by simpa using hl
    subst d0
    cases rs
    exact a (.ref p) θ _ (Ext.laid hp) (hr.laid hp) (.exc (.inl ⟨upd_same, hr.fresh hp, rfl, rfl⟩) .nil)
  · have hp' : (upd H dx (HO.xd (fs.reverse.zip vs.reverse))) p = none := by rw [upd_ne ne.symm]; exact hp
    have x := (Ext.laid (θ := θ) (o := .xd (fs.reverse.zip vs.reverse)) hd).trans (Ext.laid (o := XO (He.ga X.K c) (some dx) p) hp')
    refine a (.ref p) θ _ x ((hr.laid hd).laid hp') (.exc (vs := vs.reverse) (.inr ⟨dx, upd_same, hr.fresh hp, ?_, hr.fresh hd, by rw [List.length_reverse, List.length_reverse, lv]⟩) (rs.rev.mono x))
    rw [upd_ne ne]
    exact upd_same
theorem se_new (G : Good X M E) {c : Str} {es : List Expr} {p pos : Pos} {a : Mp.E} (hs : X.env.scope = sc) (h1 : glB sc c = true) (h2 : nmOk c = true) (h3 : (M.xc c).isSome = true) (hc : chkA M N a sc es = true) (ha : PA X es (tML X.K E (evs M a))) :
    PE X (.Call (.Name c p) es [] pos) (tM X.K E fun ρ h => (evs M a ρ h).bind fun ds h1 => newD (M.xc c) c ds h1) := by
  have n1 := Bool.and_eq_true_iff.mp h2
  have n2 := Bool.and_eq_true_iff.mp n1.1
  obtain ⟨fs, e⟩ := Option.isSome_iff_exists.mp h3
  have XI := G.xcs c fs e
  obtain ⟨B, newId, initId, bmB, kt, XC, _⟩ := XI.cls
  refine PE.wk (pe_new XC XI.nd (gl_of hs h1) XI.mgc XI.sup (G.room.mono (Nat.zero_le _)) ha (by simpa using n2.1) (fun z σ H Q hq => ?_) (fun e0 r z => ?_)) fun σ H Q hq => ?_
  · subst z
    have ec : a = .nil := by cases a <;> first | rfl | cases hc
    subst ec
    obtain ⟨θ, ρ, h, en, hr, af⟩ := hq
    exact af [] θ H Ext.refl hr .nil
  · subst z
    have s1 := starEach_ns (es := r) (env := X.env) (chkA_first hc)
    have z := chkA_len hc (pos := pos) (env := X.env)
    rw [s1] at z
    exact ⟨s1, (Bool.or_eq_false_iff.mp (show (false || (backTo pos (starEach r X.env)).any (·.1)) = false from z)).2⟩
  · obtain ⟨θ, ρ, h, en, hr, af⟩ := hq
    refine seqLE en hr af fun ds h1 vs θ1 H1 e1 x1 en1 hr1 r1 a1 => ?_
    have a1 : After X.K θ1 H1 E (newD (M.xc c) c ds h1) Q := a1
    rw [e] at a1
    obtain ⟨k, a1⟩ := After.okb a1
    have hl := of_decide_eq_true k
    exact ⟨by rw [← r1.len]; exact hl, xnew_of hr1 r1 hl a1⟩
theorem reps_perm {θ : Th} {H : Hp} {K : PySem.W.Frag} {ds : List D} {vs : List V} (rs : Reps K θ H ds vs) : ∀ perm : List Nat, Reps K θ H (perm.map fun i => ds.getD i .non) (perm.map fun i => vs.getD i .non)
  | [] => .nil
  | i :: is => by
    refine .cons ?_ (reps_perm rs is)
    show Rep K θ H (ds.getD i .non) (vs.getD i .non)
    rw [List.getD_eq_getElem?_getD, List.getD_eq_getElem?_getD]
    cases z : ds[i]? with
    | none =>
      have : vs[i]? = none := by rw [List.getElem?_eq_none_iff] at z ⊢; rw [← rs.len]; exact z
      rw [this]; exact .non
    | some d => obtain ⟨v, z1, z2⟩ := rs.get z; rw [z1]; exact z2
theorem evs_len0 (ρ : Ev) : ∀ (c : Mp.E) (es : List Expr) (h : AH) (ds : List D) (h1 : AH), chkA M N c sc es = true → evs M c ρ h = .ok ds h1 → ds.length = es.length := by
  intro c
  induction c with
  | nil => intro es h ds h1 hc e; cases es <;> cases hc; cases e; rfl
  | cons a b _ ih =>
    intro es h ds h1 hc e
    cases es with
    | nil => cases hc
    | cons x es =>
      obtain ⟨d, h2, _, e2⟩ := RD.bind_ok (show (ev M a ρ h).bind (fun x h1 => (evs M b ρ h1).bind fun xs h2 => R.ok (x :: xs) h2) = R.ok ds h1 from e)
      obtain ⟨dd, h3, e3, e4⟩ := RD.bind_ok e2
      cases e4
      have hc' : (notStar x && (chkE M N a sc x && chkA M N b sc es)) = true := hc
      simp [ih es h2 dd h1 (Bool.and_eq_true_iff.mp (Bool.and_eq_true_iff.mp hc').2).2 e3]
  | _ => intro es h ds h1 hc e; cases hc
theorem se_newk (G : Good X M E) {c : Str} {ks : List Str} {kws : List Keyword} {p pos : Pos} {a : Mp.E} (hs : X.env.scope = sc) (h1 : glB sc c = true) (h2 : nmOk c = true) (h3 : (M.xc c).isSome = true) (h5 : (M.xk c ks).isSome = true) (h4 : kwOk ks kws = true) (hc : chkA M N a sc (kws.map (·.value)) = true) (F' : PEs X E M a (kws.map (·.value))) :
    PE X (.Call (.Name c p) [] kws pos) (tM X.K E fun ρ h => (evs M a ρ h).bind fun ds h1 => match M.xk c ks with
      | some perm => newD (M.xc c) c (perm.map fun i => ds.getD i .non) h1
      | none => .bad) := by
  have n1 := Bool.and_eq_true_iff.mp h2
  have n2 := Bool.and_eq_true_iff.mp n1.1
  obtain ⟨fs, e⟩ := Option.isSome_iff_exists.mp h3
  obtain ⟨perm, ep⟩ := Option.isSome_iff_exists.mp h5
  have XI := G.xcs c fs e
  obtain ⟨B, newId, initId, bmB, kt, XC, hkt⟩ := XI.cls
  obtain ⟨i1, i2, i3, i4⟩ := sk_of (E := E) (of_decide_eq_true h4) hc F'
  refine PE.wk (pe_newk XC (hkt ks perm ep) XI.nd (gl_of hs h1) XI.mgc XI.sup (G.room.mono (Nat.zero_le _)) i4 (by simpa using n2.1) (i1 pos) (i2 pos) (i3 pos)) fun σ H Q hq => ?_
  obtain ⟨θ, ρ, h, en, hr, af⟩ := hq
  refine seqLE en hr af fun ds h1 vs θ1 H1 e1 x1 en1 hr1 r1 a1 => ?_
  rw [ep] at a1
  have a1 : After X.K θ1 H1 E (newD (M.xc c) c (perm.map fun i => ds.getD i .non) h1) Q := a1
  rw [e] at a1
  obtain ⟨k, a1⟩ := After.okb a1
  have hl := of_decide_eq_true k
  have l1 := evs_len0 ρ a _ h ds h1 hc e1
  have lk : kws.length = ks.length := by
    have := congrArg List.length (of_decide_eq_true h4 : kws.map (·.arg) = ks.map some)
    simpa using this
  exact ⟨by rw [← r1.len, l1, List.length_map, lk], xnew_of hr1 (reps_perm r1 perm) hl a1⟩
theorem look_rep {K : PySem.W.Frag} {θ : Th} {H : Hp} {f : Str} : ∀ {ks : List Str} {ds : List D} {vs : List V} {d : D}, Reps K θ H ds vs → (ks.zip ds).lookup f = some d → ∃ v, (ks.zip vs).lookup f = some v ∧ Rep K θ H d v
  | [], _, _, _, _, e => by simp at e
  | k :: ks, _, _, _, .nil, e => by simp at e
  | k :: ks, _, _, d, .cons (x := x) (v := v) r t, e => by
    have e : ((k, x) :: ks.zip _).lookup f = some d := e
    show ∃ w, ((k, v) :: ks.zip _).lookup f = some w ∧ Rep K θ H d w
    rw [List.lookup_cons] at e ⊢
    cases q : f == k with
    | true => rw [q] at e; cases e; exact ⟨v, rfl, r⟩
    | false => rw [q] at e; exact look_rep t e
theorem se_fld (G : Good X M E) {x : Expr} {f : Str} {pos : Pos} {mi : Ev → AH → R D} (hb : abOk x = true) (he : PE X x (tM X.K E mi)) : PE X (.Attribute x f pos) (tM X.K E fun ρ h => (mi ρ h).bind fun d h1 => fldD M.xc f d h1) := by
  refine PE.wk (pe_xat he (attr_ns hb _ _)) fun σ H Q hq => ?_
  obtain ⟨θ, ρ, h, en, hr, a⟩ := hq
  refine seqE en hr a fun d h1 v θ1 H1 e1 x1 en1 hr1 r1 a1 => ?_
  unfold fldD at a1
  split at a1
  · rename_i c ks ds
    split at a1
    · rename_i fs dv q1 q2
      obtain ⟨k, a1⟩ := After.okb a1
      have XI := G.xcs c fs q1
      obtain ⟨B, newId, initId, bmB, kt, XC, _⟩ := XI.cls
      cases r1 with
      | @exc _ _ _ vs p fx rs =>
        obtain ⟨w, l1, rw'⟩ := look_rep rs q2
        rcases fx with ⟨_, _, rfl, rfl⟩ | ⟨dx, g1, g2, g3, g4, g5⟩
        · simp at l1
        · exact ⟨p, _, dx, _, w, rfl, XI.rd, (XC.nofld f (of_decide_eq_true k)).1, g1, g3, l1, a1.val hr1 rw'⟩
    · exact False.elim a1
  · exact False.elim a1
theorem se_cls (G : Good X M E) {y : Str} {pos : Pos} (hs : X.env.scope = sc) (h1 : glB sc y = true) (h2 : nmOk y = true) (hy : (M.oc y || (M.fr y && isTyB y)) = true) : ∃ dy : D, PE X (.Name y pos) (tM X.K E fun _ h => .ok dy h) ∧ ∀ c b, XsIs X.K X.mg c y b → ∃ cv, PySem.W.kitOne X.K (.ref (He.ga X.K c)) cv = some b ∧ ∀ θ H v u, Rep X.K θ H dy v → RelV v u → u = cv := by
  have n1 := Bool.and_eq_true_iff.mp h2
  have n2 := Bool.and_eq_true_iff.mp n1.1
  rcases Bool.or_eq_true_iff.mp hy with hy | hy
  · have m := G.ocs y hy
    refine ⟨.glo y, PE.wk (pe_glob (v := .ref (He.ga X.K y)) (gl_of hs h1) m rfl (by simpa using n2.1)) fun σ H Q hq => ?_, fun c b q => ?_⟩
    · obtain ⟨θ, ρ, h, en, hr, a⟩ := hq
      exact a.val hr (.glo _)
    · rcases q with ⟨_, k⟩ | ⟨n, m2, _⟩
      · exact ⟨_, k, fun θ H v u r rv => by cases r; exact rv⟩
      · rw [m] at m2; cases m2
  · have hy := Bool.and_eq_true_iff.mp hy
    have m := G.free y hy.1
    obtain ⟨n, bb⟩ : ∃ n, bootBuiltins y = some (.type n) := by
      have z := hy.2
      unfold isTyB at z
      split at z
      · exact ⟨_, by assumption⟩
      · cases z
    refine ⟨.ty n, PE.wk (pe_bltn (v := .ty n) (gl_of hs h1) m bb rfl (of_decide_eq_true n1.2) (by simpa using n2.1)) fun σ H Q hq => ?_, fun c b q => ?_⟩
    · obtain ⟨θ, ρ, h, en, hr, a⟩ := hq
      exact a.val hr (.ty _)
    · rcases q with ⟨m2, _⟩ | ⟨n', _, b2, k⟩
      · rw [m] at m2; cases m2
      · rw [bb] at b2
        cases b2
        exact ⟨_, k, fun θ H v u r rv => by cases r; exact rv⟩
theorem se_isx (G : Good X M E) {x : Expr} {y : Str} {p q pos : Pos} {mi : Ev → AH → R D} (hs : X.env.scope = sc) (hg : glB sc "isinstance" = true) (hf : M.fr "isinstance" = true) (h1 : glB sc y = true) (h2 : nmOk y = true) (hy : (M.oc y || (M.fr y && isTyB y)) = true) (hx : notStar x = true) (he : PE X x (tM X.K E mi)) :
    PE X (.Call (.Name "isinstance" p) [x, .Name y q] [] pos) (tM X.K E fun ρ h => (mi ρ h).bind fun d h1 => isxD M.xc M.xs y d h1) := by
  obtain ⟨dy, py, k⟩ := se_cls (E := E) (pos := q) G hs h1 h2 hy
  have ha := sa_cons hx he (sa_cons (e := .Name y q) rfl py sa_nil)
  refine PE.wk (pe_callB call_xis (gl_of hs hg) (G.free _ hf) (by decide +kernel) ha (by decide +kernel) (by decide +kernel) (starEach_ns hx) rfl) fun σ H Q hq => ?_
  obtain ⟨θ, ρ, h, en, hr, a⟩ := hq
  refine ⟨θ, ρ, h, en, hr, ?_⟩
  dsimp only at a ⊢
  cases z : mi ρ h with
  | bad => rw [z] at a; exact a
  | exc c fs h' => rw [z] at a; exact a
  | ok d h1 =>
    rw [z] at a
    intro vs θ1 H1 x1 hr1 rs
    obtain ⟨v, w, rfl, r1, r2⟩ := rs.two
    have a : After X.K θ H E (isxD M.xc M.xs y d h1) Q := a
    cases d with
    | exc c ks ds =>
      have a : After X.K θ H E (match M.xc c, M.xs c y with
        | some _, some b => .ok (.bl b) h1
        | _, _ => .bad) Q := a
      cases q1 : M.xc c with
      | none => rw [q1] at a; exact False.elim a
      | some fs => cases q2 : M.xs c y with
        | none => rw [q1, q2] at a; exact False.elim a
        | some b =>
          rw [q1, q2] at a
          have XI := G.xcs c fs q1
          obtain ⟨cv, k1, k2⟩ := k c b (G.xss c y b q2)
          cases r1 with
          | @exc _ _ _ vs p fx rs =>
            have fin : Q (.bl b) H1 := a (.bl b) θ1 H1 x1 hr1 (.bl b)
            rcases fx with ⟨g1, _, _, _⟩ | ⟨dx, g1, g2, g3, g4, g5⟩
            · exact ⟨p, _, none, w, cv, b, rfl, XI.rd, g1, fun dx z => (by cases z), fun u hu => k2 θ1 H1 w u r2 hu, k1, fin⟩
            · exact ⟨p, _, some dx, w, cv, b, rfl, XI.rd, g1, fun d2 z => (by cases z; exact ⟨_, g3⟩), fun u hu => k2 θ1 H1 w u r2 hu, k1, fin⟩
    | _ => exact False.elim a
end
end Mp

set_option Elab.async false
set_option linter.all false
set_option autoImplicit false
set_option maxRecDepth 100000
set_option maxHeartbeats 4000000
namespace Mp
open PySem PySem.Spec L2
section
variable {X : Cx} {M : Mdl} {E : XW} {N : List Str} {sc : Scope}
theorem pa_of : ∀ {c : Mp.E} {es : List Expr}, chkA M N c sc es = true → PEs X E M c es → PA X es (tML X.K E (evs M c))
  | .nil, [], _, _ => sa_nil
  | .cons a b, e :: es, h, p => by
    have h1 := Bool.and_eq_true_iff.mp (show (notStar e && (chkE M N a sc e && chkA M N b sc es)) = true from h)
    have h2 := Bool.and_eq_true_iff.mp h1.2
    exact sa_cons h1.1 p.1 (pa_of h2.2 p.2)
theorem chkA_cons {c : Mp.E} {e : Expr} {es : List Expr} (h : chkA M N c sc (e :: es) = true) : ∃ a b, c = .cons a b ∧ notStar e = true ∧ chkE M N a sc e = true ∧ chkA M N b sc es = true := by
  cases c with
  | cons a b =>
    have h1 := Bool.and_eq_true_iff.mp (show (notStar e && (chkE M N a sc e && chkA M N b sc es)) = true from h)
    have h2 := Bool.and_eq_true_iff.mp h1.2
    exact ⟨a, b, rfl, h1.1, h2.1, h2.2⟩
  | _ => cases h
theorem chkA_nil {c : Mp.E} (h : chkA M N c sc [] = true) : c = .nil := by cases c <;> first | rfl | cases h
theorem and_of {es : List Expr} : ∀ {c : Mp.E} {e : Expr} {pos : Pos}, chkA M N c sc (e :: es) = true → PEs X E M c (e :: es) → PE X (.BoolOp .And (e :: es) pos) (tM X.K E (evAnd M c)) := by
  induction es with
  | nil =>
    intro c e pos h p
    obtain ⟨a, b, rfl, h0, h1, h2⟩ := chkA_cons h
    obtain rfl := chkA_nil h2
    exact pe_one p.1
  | cons e2 es ih =>
    intro c e pos h p
    obtain ⟨a, b, rfl, h0, h1, h2⟩ := chkA_cons h
    obtain ⟨a2, b2, rfl, _⟩ := chkA_cons h2
    exact PE.wk (se_and p.1 (ih h2 p.2)) fun σ H Q hq => hq
theorem or_of {es : List Expr} : ∀ {c : Mp.E} {e : Expr} {pos : Pos}, chkA M N c sc (e :: es) = true → PEs X E M c (e :: es) → PE X (.BoolOp .Or (e :: es) pos) (tM X.K E (evOr M c)) := by
  induction es with
  | nil =>
    intro c e pos h p
    obtain ⟨a, b, rfl, h0, h1, h2⟩ := chkA_cons h
    obtain rfl := chkA_nil h2
    exact pe_one p.1
  | cons e2 es ih =>
    intro c e pos h p
    obtain ⟨a, b, rfl, h0, h1, h2⟩ := chkA_cons h
    obtain ⟨a2, b2, rfl, _⟩ := chkA_cons h2
    exact PE.wk (se_or p.1 (ih h2 p.2)) fun σ H Q hq => hq
theorem andT_of {es : List Expr} : ∀ {c : Mp.E} {e : Expr} {pos : Pos}, chkA M N c sc (e :: es) = true → PTl X E M c (e :: es) → PW X (.BoolOp .And (e :: es) pos) (tMT X.K E fun ρ h => (evAnd M c ρ h).bind truR) := by
  induction es with
  | nil =>
    intro c e pos h p
    obtain ⟨a, b, rfl, h0, h1, h2⟩ := chkA_cons h
    obtain rfl := chkA_nil h2
    exact pw_and1 p.1
  | cons e2 es ih =>
    intro c e pos h p
    obtain ⟨a, b, rfl, h0, h1, h2⟩ := chkA_cons h
    obtain ⟨a2, b2, rfl, _⟩ := chkA_cons h2
    exact ⟨fun wh pins s σ H Q I hq => (st_and p.1 (ih h2 p.2)).run wh pins s σ H Q I hq⟩
theorem orT_of {es : List Expr} : ∀ {c : Mp.E} {e : Expr} {pos : Pos}, chkA M N c sc (e :: es) = true → PTl X E M c (e :: es) → PW X (.BoolOp .Or (e :: es) pos) (tMT X.K E fun ρ h => (evOr M c ρ h).bind truR) := by
  induction es with
  | nil =>
    intro c e pos h p
    obtain ⟨a, b, rfl, h0, h1, h2⟩ := chkA_cons h
    obtain rfl := chkA_nil h2
    exact pw_or1 p.1
  | cons e2 es ih =>
    intro c e pos h p
    obtain ⟨a, b, rfl, h0, h1, h2⟩ := chkA_cons h
    obtain ⟨a2, b2, rfl, _⟩ := chkA_cons h2
    exact ⟨fun wh pins s σ H Q I hq => (st_or p.1 (ih h2 p.2)).run wh pins s σ H Q I hq⟩
/-! ### comprehensions -/
theorem Good.blk (G : Good X M E) (s : Shared) (H : Hp) (scope : Scope) (cenv : Env) (fp : List Addr) : Good (X.blk s H scope cenv fp) M E0 :=
  ⟨G.room, G.gds, G.calm, G.nd, G.sys, fun pins σ H' s' e s'' I c => by
    obtain ⟨a, B, H2, cls, d, _, _, _, _, _, _, _, z⟩ := c
    obtain ⟨c, vs, b, _, _, _, f⟩ := z
    exact f, PassesOwn.never, G.glo, G.free, G.fns, G.dts, G.xcs, G.xss, G.ocs⟩
theorem PTs.wk {ifs : List Expr} {t t' : TT} (h : PTs X ifs t) (w : ∀ σ H Q, t' σ H Q → t σ H Q) : PTs X ifs t' := ⟨fun pins s σ H Q I hq => h.run pins s σ H Q I (w σ H Q hq)⟩
theorem rng_len (lo hi : Int) : (rngD lo hi).length = (hi - lo).toNat := by simp [rngD]
theorem wk_rng {K : PySem.W.Frag} (lo hi : Int) {L : Th → Hp → Prop} : Wk K (Itr lo (hi - lo).toNat) (rngD lo hi) (fun _ => true) L := by
  refine ⟨fun i θ H h l hr c hi => ?_, fun i θ H h l hr c hi => ?_, fun i θ H h x H' l hr c hi y => ?_⟩
  · rw [rng_len] at hi; exact hi
  · rw [rng_len] at hi; exact hi
  · obtain ⟨rfl, rfl⟩ := y
    refine ⟨.int (lo + (i : Nat)), ?_, Ext.refl, fun _ _ => rfl, .int _⟩
    rw [rng_len] at hi
    unfold rngD
    rw [List.getElem?_map, List.getElem?_range hi]
    rfl
theorem evs_len (ρ : Ev) : ∀ (c : Mp.E) (es : List Expr) (h : AH) (ds : List D) (h1 : AH), chkA M N c sc es = true → evs M c ρ h = .ok ds h1 → ds.length = es.length := by
  intro c
  induction c with
  | nil => intro es h ds h1 hc e; cases es <;> cases hc; cases e; rfl
  | cons a b _ ih =>
    intro es h ds h1 hc e
    cases es with
    | nil => cases hc
    | cons x es =>
      obtain ⟨d, h2, _, e2⟩ := RD.bind_ok (show (ev M a ρ h).bind (fun x h1 => (evs M b ρ h1).bind fun xs h2 => R.ok (x :: xs) h2) = R.ok ds h1 from e)
      obtain ⟨dd, h3, e3, e4⟩ := RD.bind_ok e2
      cases e4
      have hc' : (notStar x && (chkE M N a sc x && chkA M N b sc es)) = true := hc
      simp [ih es h2 dd h1 (Bool.and_eq_true_iff.mp (Bool.and_eq_true_iff.mp hc').2).2 e3]
  | _ => intro es h ds h1 hc e; cases hc
/-! ### targets -/
theorem nm_of (G : Good X M E) {i : Nat} {tg : Expr} (hs : X.env.scope = sc) (hN : X.N = N) (h : nmT sc N i tg = true) : PG X tg (gName i) ∧ ∃ x p, tg = .Name x p := by
  cases tg with
  | Name x pos =>
    have h1 := Bool.and_eq_true_iff.mp (show (decide (N[i]? = some x) && decide (sc.names.lookup x = some .local)) = true from h)
    have e1 : X.N[i]? = some x := by rw [hN]; exact of_decide_eq_true h1.1
    have e2 : X.env.scope.names.lookup x = some .local := by rw [hs]; exact of_decide_eq_true h1.2
    exact ⟨pg_name G.nd e1 (.inl e2) (.inr e2), x, pos, rfl⟩
  | _ => cases h
theorem nms_of (G : Good X M E) (hs : X.env.scope = sc) (hN : X.N = N) : ∀ {is : List Nat} {es : List Expr}, nmsT sc N is es = true → PGs X es (gNames is) ∧ (assignEach es X.env).length = is.length ∧ (assignEach es X.env).findIdx? (·.1) = none
  | [], [], _ => ⟨pgs_nil, rfl, rfl⟩
  | [], _ :: _, h => by cases h
  | _ :: _, [], h => by cases h
  | i :: is, e :: es, h => by
    have h1 := Bool.and_eq_true_iff.mp (show (nmT sc N i e && nmsT sc N is es) = true from h)
    obtain ⟨p, x, pos, rfl⟩ := nm_of G hs hN h1.1
    obtain ⟨q1, q2, q3⟩ := nms_of G hs hN h1.2
    have e0 : assignEach (.Name x pos :: es) X.env = (false, assign (.Name x pos) X.env) :: assignEach es X.env := rfl
    refine ⟨pgs_cons p q1 rfl, ?_, ?_⟩
    · rw [e0, List.length_cons, List.length_cons, q2]
    · rw [e0, List.findIdx?_cons, q3]
      rfl
theorem tgt_of (G : Good X M E) {t : Tg} {tg : Expr} (hs : X.env.scope = sc) (hN : X.N = N) (h : tgOk sc N t tg = true) : PG X tg (gT X.K t) := by
  cases t with
  | one i => exact (nm_of G hs hN h).1
  | many is =>
    cases tg with
    | Tuple es k pos =>
      obtain ⟨q1, q2, q3⟩ := nms_of G hs hN (show nmsT sc N is es = true from h)
      exact pg_tup G.calm q1 q2 q3
    | _ => cases h
theorem nms_len : ∀ {is : List Nat} {es : List Expr}, nmsT sc N is es = true → es.length = is.length
  | [], [], _ => rfl
  | [], _ :: _, h => by cases h
  | _ :: _, [], h => by cases h
  | i :: is, e :: es, h => by
    have h1 := Bool.and_eq_true_iff.mp (show (nmT sc N i e && nmsT sc N is es) = true from h)
    simp [nms_len h1.2]
theorem own_of {t : Tg} {tg : Expr} (h : tgOk sc N t tg = true) : (tgOwn t tg).map (·.2) = t.own := by
  cases t with
  | one i => rfl
  | many is =>
    cases tg with
    | Tuple es k pos =>
      have l := nms_len (show nmsT sc N is es = true from h)
      show ((es.map tgName).zip is).map (·.2) = is
      rw [List.map_snd_zip (by rw [List.length_map, l]; exact Nat.le_refl _)]
    | _ => cases h
/-! ### what a loop goes over -/
def AfterI (K : PySem.W.Frag) (θ : Th) (H : Hp) (E : XW) : R (List D × (AH → Bool)) → (It → Hp → Prop) → Prop
  | .ok p h1, Q => ∀ (J : It) (θ1 : Th) (H1 : Hp) (L : Th → Hp → Prop), Ext θ H θ1 H1 → HRep K θ1 H1 h1 → Wk K J p.1 p.2 L → (∀ θ H θ' H', Mv θ H θ' H' → L θ H → L θ' H') → (∀ θ H θ' H', Ext θ H θ' H' → L θ H → L θ' H') → L θ1 H1 → Q J H1
  | .exc c fs h', _ => ∀ vs θ' H', Ext θ H θ' H' → HRep K θ' H' h' → Repf K θ' H' fs vs → E c vs H'
  | .bad, _ => False
def iM (K : PySem.W.Frag) (E : XW) (m : Ev → AH → R (List D × (AH → Bool))) : TI := fun σ H Q => ∃ θ ρ h, EnvRep K θ H σ ρ ∧ HRep K θ H h ∧ AfterI K θ H E (m ρ h) Q
theorem PI.wk {tg e : Expr} {t t' : TI} (h : PI X tg e t) (w : ∀ σ H Q, t' σ H Q → t σ H Q) : PI X tg e t' := ⟨fun pins s σ H Q I hq => h.run pins s σ H Q I (w σ H Q hq)⟩
theorem it_seq {tg e : Expr} {mi : Ev → AH → R D} (he : PE X e (tM X.K E mi)) : PI X tg e (iM X.K E fun ρ h => (mi ρ h).bind fun d h1 => match itD h1 d with
      | some xs => .ok (xs, ckD d xs) h1
      | none => .bad) := by
  refine PI.wk (pi_seq he) fun σ H Q hq => ?_
  obtain ⟨θ, ρ, h, en, hr, a⟩ := hq
  dsimp only at a
  refine ⟨θ, ρ, h, en, hr, ?_⟩
  cases q : mi ρ h with
  | bad => rw [q] at a; exact a
  | exc c fs h' => rw [q] at a; exact a
  | ok d h1 =>
    rw [q] at a
    intro v θ1 H1 x1 hr1 r
    have a : AfterI X.K θ H E (match itD h1 d with
      | some xs => .ok (xs, ckD d xs) h1
      | none => .bad) Q := a
    cases z : itD h1 d with
    | none => rw [z] at a; exact False.elim a
    | some xs =>
      rw [z] at a
      obtain ⟨J, it, W⟩ := wk_of hr1 r z
      exact ⟨J, it, a J θ1 H1 _ x1 hr1 W (fun _ _ _ _ mv l => Rep.mv mv l) (fun _ _ _ _ x l => Rep.mono x l) r⟩
theorem it_rng (G : Good X M E) {tg : Expr} {xs : List Expr} {p p2 : Pos} {c : Mp.E} (hg : glB X.env.scope "range" = true) (hf : M.fr "range" = true) (hlen : xs.length = 1 ∨ xs.length = 2) (hc : chkA M N c X.env.scope xs = true) (ha : PA X xs (tML X.K E (evs M c))) :
    PI X tg (.Call (.Name "range" p) xs [] p2) (iM X.K E fun ρ h => (evs M c ρ h).bind fun ds h1 => match rngOf ds with
      | some (lo, hi) => .ok (rngD lo hi, fun _ => true) h1
      | none => .bad) := by
  have gl : Gl X "range" := gl_of rfl hg
  have key : ∀ (σ : L2.St) (H : Hp) (Q : It → Hp → Prop) (Q' : List V → Hp → Prop), iM X.K E (fun ρ h => (evs M c ρ h).bind fun ds h1 => match rngOf ds with
      | some (lo, hi) => .ok (rngD lo hi, fun _ => true) h1
      | none => .bad) σ H Q → (∀ θ1 H1 ds vs lo hi, Reps X.K θ1 H1 ds vs → ds.length = xs.length → rngOf ds = some (lo, hi) → Q (Itr lo (hi - lo).toNat) H1 → Q' vs H1) → tML X.K E (evs M c) σ H Q' := by
    intro σ H Q Q' hq w
    obtain ⟨θ, ρ, h, en, hr, a⟩ := hq
    dsimp only at a
    refine ⟨θ, ρ, h, en, hr, ?_⟩
    cases q : evs M c ρ h with
    | bad => rw [q] at a; exact a
    | exc c fs h' => rw [q] at a; exact a
    | ok ds h1 =>
      rw [q] at a
      intro vs θ1 H1 x1 hr1 rs
      have a : AfterI X.K θ H E (match rngOf ds with
        | some (lo, hi) => .ok (rngD lo hi, fun _ => true) h1
        | none => .bad) Q := a
      cases z : rngOf ds with
      | none => rw [z] at a; exact False.elim a
      | some lh =>
        obtain ⟨lo, hi⟩ := lh
        rw [z] at a
        exact w θ1 H1 ds vs lo hi rs (evs_len ρ c xs h ds h1 hc q) z (a _ θ1 H1 (fun _ _ => True) x1 hr1 (wk_rng lo hi) (fun _ _ _ _ _ _ => trivial) (fun _ _ _ _ _ _ => trivial) trivial)
  cases xs with
  | nil => rcases hlen with z | z <;> cases z
  | cons x xs => cases xs with
    | nil =>
      refine PI.wk (pi_range1 gl (G.free _ hf) ha (starEach_ns (chkA_first hc))) fun σ H Q hq => ?_
      refine key σ H Q _ hq fun θ1 H1 ds vs lo hi rs ld e w => ?_
      unfold rngOf at e
      split at e
      · split at e
        · rename_i z2
          cases e
          obtain ⟨w0, rfl, rw'⟩ := rs.one
          cases rw'
          exact ⟨_, rfl, (rngB_ok z2).1.2.2.1, (rngB_ok z2).1.2.2.2, by simpa using w⟩
        · cases e
      · simp at ld
      · cases e
    | cons y ys => cases ys with
      | nil =>
        obtain ⟨a1, b1, rfl, _, _, hb1⟩ := chkA_cons hc
        refine PI.wk (pi_range2 gl (G.free _ hf) ha (by rw [starEach_ns (chkA_first hc), starEach_ns (chkA_first hb1)]; rfl) (starEach_ns (chkA_first hb1))) fun σ H Q hq => ?_
        refine key σ H Q _ hq fun θ1 H1 ds vs lo hi rs ld e w => ?_
        unfold rngOf at e
        split at e
        · simp at ld
        · split at e
          · rename_i z2
            cases e
            obtain ⟨w0, w2, rfl, rw', rw2⟩ := rs.two
            cases rw'
            cases rw2
            exact ⟨_, _, rfl, (rngB_ok z2).1, w⟩
          · cases e
        · cases e
      | cons z zs => rcases hlen with z | z <;> (simp at z)
theorem zipL_len (xs ys : List D) : (zipL xs ys).length = min xs.length ys.length := by simp [zipL]
theorem zipL_get {xs ys : List D} {i : Nat} {x y : D} (h1 : xs[i]? = some x) (h2 : ys[i]? = some y) : (zipL xs ys)[i]? = some (.tup [x, y]) := by
  unfold zipL
  rw [List.getElem?_map, List.getElem?_zip_eq_some (z := (x, y)).mpr ⟨h1, h2⟩]
  rfl
theorem wk_zipL {K : PySem.W.Frag} {a b : Addr} {xs ys : List D} {ck : AH → Bool} {L : Th → Hp → Prop} (S : ∀ θ H h, L θ H → HRep K θ H h → ck h = true → ∃ vs us, SqL K H a vs ∧ SqL K H b us ∧ Reps K θ H xs vs ∧ Reps K θ H ys us) : Wk K (Itz K a b) (zipL xs ys) ck L := by
  refine ⟨fun i θ H h l hr c hi => ?_, fun i θ H h l hr c hi => ?_, fun i θ H h x H' l hr c hi y => ?_⟩
  · obtain ⟨vs, us, s1, s2, r1, r2⟩ := S θ H h l hr c
    rw [zipL_len] at hi
    have l1 := r1.len
    have l2 := r2.len
    exact ⟨vs, us, vs[i]'(by omega), us[i]'(by omega), s1, s2, List.getElem?_eq_getElem _, List.getElem?_eq_getElem _⟩
  · obtain ⟨vs, us, s1, s2, r1, r2⟩ := S θ H h l hr c
    rw [zipL_len] at hi
    have l1 := r1.len
    have l2 := r2.len
    exact ⟨vs, us, s1, s2, by omega⟩
  · obtain ⟨vs, us, s1, s2, r1, r2⟩ := S θ H h l hr c
    obtain ⟨T, u, v, rfl, hT, rfl, g1, g2⟩ := y
    obtain ⟨d1, e1, q1⟩ := r1.getV (g1 _ s1)
    obtain ⟨d2, e2, q2⟩ := r2.getV (g2 _ s2)
    refine ⟨.tup [d1, d2], zipL_get e1 e2, Ext.laid hT, fun a ha => upd_ne (by rintro rfl; exact ha hT), .tup (.inl ⟨.inl upd_same, hr.fresh hT⟩) (.cons (q1.mono (Ext.laid hT)) (.cons (q2.mono (Ext.laid hT)) .nil))⟩
theorem wk_zipT {K : PySem.W.Frag} {a b : Addr} {xs ys : List D} {ck : AH → Bool} {L : Th → Hp → Prop} (S : ∀ θ H h, L θ H → HRep K θ H h → ck h = true → ∃ vs us, SqT K H a vs ∧ SqT K H b us ∧ Reps K θ H xs vs ∧ Reps K θ H ys us) : Wk K (RZ.ItzT K a b) (zipL xs ys) ck L := by
  refine ⟨fun i θ H h l hr c hi => ?_, fun i θ H h l hr c hi => ?_, fun i θ H h x H' l hr c hi y => ?_⟩
  · obtain ⟨vs, us, s1, s2, r1, r2⟩ := S θ H h l hr c
    rw [zipL_len] at hi
    have l1 := r1.len
    have l2 := r2.len
    exact ⟨vs, us, vs[i]'(by omega), us[i]'(by omega), s1, s2, List.getElem?_eq_getElem _, List.getElem?_eq_getElem _⟩
  · obtain ⟨vs, us, s1, s2, r1, r2⟩ := S θ H h l hr c
    rw [zipL_len] at hi
    have l1 := r1.len
    have l2 := r2.len
    exact ⟨vs, us, s1, s2, by omega⟩
  · obtain ⟨vs, us, s1, s2, r1, r2⟩ := S θ H h l hr c
    obtain ⟨T, u, v, rfl, hT, rfl, g1, g2⟩ := y
    obtain ⟨d1, e1, q1⟩ := r1.getV (g1 _ s1)
    obtain ⟨d2, e2, q2⟩ := r2.getV (g2 _ s2)
    refine ⟨.tup [d1, d2], zipL_get e1 e2, Ext.laid hT, fun a ha => upd_ne (by rintro rfl; exact ha hT), .tup (.inl ⟨.inl upd_same, hr.fresh hT⟩) (.cons (q1.mono (Ext.laid hT)) (.cons (q2.mono (Ext.laid hT)) .nil))⟩
theorem lsD_ck {K : PySem.W.Frag} {θ : Th} {H : Hp} {h h0 : AH} {d : D} {v : V} {xs : List D} (hr : HRep K θ H h) (r : Rep K θ H d v) (e : lsD h0 d = some xs) (c : ckD d xs h = true) : ∃ a vs, v = .ref a ∧ SqL K H a vs ∧ Reps K θ H xs vs := by
  cases r with
  | @lst xs' vs a f rs => cases e; exact ⟨a, vs, rfl, SqL.of f.1, rs⟩
  | @ref n a q =>
    obtain ⟨vs, h1, h2⟩ := hr.lst q (ckD_eq c)
    exact ⟨a, vs, rfl, SqL.of h1, h2⟩
  | _ => cases e
theorem it_zip (G : Good X M E) {tg x y : Expr} {p p2 : Pos} {a b : Mp.E} (ht : isTupE tg = true) (hg : glB X.env.scope "zip" = true) (hf : M.fr "zip" = true) (hx : notStar x = true) (hy : notStar y = true) (ha : PA X [x, y] (tML X.K E (evs M (.cons a (.cons b .nil))))) :
    PI X tg (.Call (.Name "zip" p) [x, y] [] p2) (iM X.K E fun ρ h => (ev M a ρ h).bind fun x h1 => (ev M b ρ h1).bind fun y h2 => zipD x y h2) := by
  cases tg with
  | Tuple elts kk tpos =>
    refine PI.wk (RZ.pi_zipA (gl_of rfl hg) (G.free _ hf) ha (starEach_ns hx) (by rw [starEach_ns hy]; rfl)) fun σ H Q hq => ?_
    obtain ⟨θ, ρ, h, en, hr, a0⟩ := hq
    dsimp only at a0
    refine ⟨θ, ρ, h, en, hr, ?_⟩
    show AfterL X.K θ H E ((ev M a ρ h).bind fun x h1 => ((ev M b ρ h1).bind fun y h2 => R.ok [y] h2).bind fun xs h2 => R.ok (x :: xs) h2) _
    cases q1 : ev M a ρ h with
    | bad => rw [q1] at a0; exact a0
    | exc c fs h' => rw [q1] at a0; exact a0
    | ok d h1 =>
      rw [q1] at a0
      cases q2 : ev M b ρ h1 with
      | bad => simp only [R.bind, q2] at a0; exact False.elim a0
      | exc c fs h' => simp only [R.bind, q2] at a0 ⊢; exact a0
      | ok e h2 =>
        simp only [R.bind, q2] at a0 ⊢
        intro vs θ1 H1 x1 hr1 rs
        obtain ⟨vx, vy, rfl, r1, r2⟩ := rs.two
        have lists : ∀ xs ys : List D, lsD h2 d = some xs → lsD h2 e = some ys → zipD d e h2 = .ok (zipL xs ys, fun h => ckD d xs h && ckD e ys h) h2 → ∃ a b xs ys, [vx, vy] = [V.ref a, V.ref b] ∧ ((SqL X.K H1 a xs ∧ SqL X.K H1 b ys ∧ Q (Itz X.K a b) H1) ∨ (SqT X.K H1 a xs ∧ SqT X.K H1 b ys ∧ Q (RZ.ItzT X.K a b) H1)) := by
          intro xs ys e1 e2 ez
          rw [ez] at a0
          obtain ⟨p1, vs1, rfl, f1, s1⟩ := lsD_ok hr1 r1 e1
          obtain ⟨p2, vs2, rfl, f2, s2⟩ := lsD_ok hr1 r2 e2
          refine ⟨p1, p2, vs1, vs2, rfl, .inl ⟨SqL.of f1, SqL.of f2, ?_⟩⟩
          refine a0 _ θ1 H1 (fun θ H => Rep X.K θ H d (.ref p1) ∧ Rep X.K θ H e (.ref p2)) x1 hr1 (wk_zipL fun θ H h l hr c => ?_) (fun _ _ _ _ mv l => ⟨l.1.mv mv, l.2.mv mv⟩) (fun _ _ _ _ x l => ⟨l.1.mono x, l.2.mono x⟩) ⟨r1, r2⟩
          have c := Bool.and_eq_true_iff.mp c
          obtain ⟨_, v1, w1, z1, k1⟩ := lsD_ck hr l.1 e1 c.1
          obtain ⟨_, v2, w2, z2, k2⟩ := lsD_ck hr l.2 e2 c.2
          cases w1
          cases w2
          exact ⟨v1, v2, z1, z2, k1, k2⟩
        have gen : (∀ xs ys, d = .tup xs → e ≠ .tup ys) → ∃ a b xs ys, [vx, vy] = [V.ref a, V.ref b] ∧ ((SqL X.K H1 a xs ∧ SqL X.K H1 b ys ∧ Q (Itz X.K a b) H1) ∨ (SqT X.K H1 a xs ∧ SqT X.K H1 b ys ∧ Q (RZ.ItzT X.K a b) H1)) := by
          intro ne
          have ez : zipD d e h2 = match lsD h2 d, lsD h2 e with
            | some xs, some ys => .ok (zipL xs ys, fun h => ckD d xs h && ckD e ys h) h2
            | _, _ => .bad := by
            unfold zipD
            split
            · exact absurd rfl (ne _ _ rfl)
            · rfl
          cases e1 : lsD h2 d with
          | none => rw [ez, e1] at a0; exact False.elim a0
          | some xs =>
            cases e2 : lsD h2 e with
            | none => rw [ez, e1, e2] at a0; exact False.elim a0
            | some ys => exact lists xs ys e1 e2 (by rw [ez, e1, e2])
        cases r1 with
        | @tup xs vs1 p1 f1 s1 =>
          cases r2 with
          | @tup ys vs2 p2 f2 s2 =>
            refine ⟨p1, p2, vs1, vs2, rfl, .inr ⟨f1.sq, f2.sq, ?_⟩⟩
            refine a0 _ θ1 H1 (fun θ H => Rep X.K θ H (.tup xs) (.ref p1) ∧ Rep X.K θ H (.tup ys) (.ref p2)) x1 hr1 (wk_zipT fun θ H h l hr c => ?_) (fun _ _ _ _ mv l => ⟨l.1.mv mv, l.2.mv mv⟩) (fun _ _ _ _ x l => ⟨l.1.mono x, l.2.mono x⟩) ⟨.tup f1 s1, .tup f2 s2⟩
            obtain ⟨k1, k2⟩ := l
            cases k1 with
            | tup g1 t1 => cases k2 with
              | tup g2 t2 => exact ⟨_, _, g1.sq, g2.sq, t1, t2⟩
          | _ => exact gen (fun _ _ _ q => by cases q)
        | _ => exact gen (fun _ _ q => by cases q)
  | _ => cases ht
/-! ### comprehensions -/
theorem tLc_of {m : Bool} {t : Tg} {mi : Ev → AH → R (List D × (AH → Bool))} {me : Ev → AH → R D} {mc : Ev → AH → R Bool} {σ : L2.St} {H : Hp} {Q : VK} (hq : tM X.K E (fun ρ h => (mi ρ h).bind fun p h1 => okb (decide (p.1.length ≤ sizeLine)) (lcIt m t mc me ρ p.1 p.2 h1)) σ H Q) :
    tLc (iM X.K E mi) (gT X.K t) (tMT X.K E0 mc) (tM X.K E0 me) t.own σ H Q := by
  obtain ⟨θ, ρ, h, en, hr, a⟩ := hq
  dsimp only at a
  refine ⟨θ, ρ, h, en, hr, ?_⟩
  cases q : mi ρ h with
  | bad => rw [q] at a; exact a
  | exc c fs h' => rw [q] at a; exact a
  | ok p h1 =>
    rw [q] at a
    obtain ⟨c, a⟩ := After.okb a
    intro J θ1 H1 L x1 hr1 W hm hx l1 P hP
    exact lc_run W hm hx l1 (en.mono x1) hr1 hP (of_decide_eq_true c) (After.ext a x1)
theorem se_lc (G : Good X M E) (hN : X.N = N) {m : Bool} {t : Tg} {e tg it : Expr} {ifs : List Expr} {scope : Scope} {pos : Pos} {mi : Ev → AH → R (List D × (AH → Bool))} {me : Ev → AH → R D} {mc : Ev → AH → R Bool} (hi : PI X tg it (iM X.K E mi)) (hset : ∀ x, foldedSetIterable it X.env x = pure x)
    (ht : tgOk (relS scope X.env.scope) N t tg = true) (hb : blkC N X.env.scope scope (tgOwn t tg) = true)
    (hif : ∀ (s : Shared) (H : Hp) (C : Addr) (cl : List (Str × Addr)) (fp : List Addr), PTs (X.blk s H scope (compEnvC scope cl C X.env) fp) ifs (tMT X.K E0 mc))
    (he : ∀ (s : Shared) (H : Hp) (C : Addr) (cl : List (Str × Addr)) (fp : List Addr), PE (X.blk s H scope (compEnvC scope cl C X.env) fp) e (tM X.K E0 me)) :
    PE X (.ListComp e [⟨tg, it, ifs, 0⟩] scope pos) (tM X.K E fun ρ h => (mi ρ h).bind fun p h1 => okb (decide (p.1.length ≤ sizeLine)) (lcIt m t mc me ρ p.1 p.2 h1)) ∧
    ∀ (j : Nat) (y : Str) (py spos : Pos), X.N[j]? = some y → X.env.scope.names.lookup y = some .local → swapsWith (.ListComp e [⟨tg, it, ifs, 0⟩] scope pos) (some (.Name y py)) spos.line X.env = pure true →
      PS X (.Assign [.Name y py] (.ListComp e [⟨tg, it, ifs, 0⟩] scope pos) spos) (tAsg (tM X.K E fun ρ h => (mi ρ h).bind fun p h1 => okb (decide (p.1.length ≤ sizeLine)) (lcIt m t mc me ρ p.1 p.2 h1)) (gName j)) := by
  have eo := own_of ht
  refine ⟨PE.wk (pe_lc (own := tgOwn t tg) (g := gT X.K t) G.calm G.nd hi (blkOk_by (by rw [hN]; exact hb)) (fun s H C cl fp => tgt_of (G.blk s H scope _ fp) rfl hN ht) hif he hset) fun σ H Q hq => ?_, fun j y py spos hy hyl hsw => ⟨fun pins s σ H D I hq => (ps_setLc (i := j) (own := tgOwn t tg) (g := gT X.K t) G.calm G.nd hy hyl hsw hi (blkOk_by (by rw [hN]; exact hb)) (fun s H C cl fp => tgt_of (G.blk s H scope _ fp) rfl hN ht) hif he hset).run pins s σ H D I ?_⟩⟩
  · rw [eo]
    exact tLc_of hq
  · rw [eo]
    exact tLc_of hq
theorem se_rev {m : Bool} {e : Expr} {k : Nat} {p1 p2 p3 pos : Pos} {mi : Ev → AH → R D} (he : PE X e (tM X.K E mi)) : PE X (.Subscript e (.Slice none none (some (.UnaryOp .USub (.Constant (.int 1) k p1) p2)) p3) pos) (tM X.K E fun ρ h => (mi ρ h).bind fun d h1 => revD m d h1) := by
  refine PE.wk (pe_rev he) fun σ H Q hq => ?_
  obtain ⟨θ, ρ, h, en, hr, a⟩ := hq
  refine seqE en hr a fun d h1 v θ1 H1 e1 x1 en1 hr1 r1 a1 => ?_
  have lst : (∀ xs, d ≠ .tup xs) → ∃ a xs, v = .ref a ∧ ((SqL X.K H1 a xs ∧ ∀ p, H1 p = none → Q (.ref p) (upd H1 p (.lst xs.reverse))) ∨ (SqT X.K H1 a xs ∧ ∀ p, H1 p = none → Q (.ref p) (upd H1 p (.tup xs.reverse)))) := by
    intro nt
    have e0 : revD m d h1 = match lsD h1 d with
      | some xs => newL m xs.reverse h1
      | none => .bad := by
      unfold revD
      split
      · exact absurd rfl (nt _)
      · rfl
    rw [e0] at a1
    cases q : lsD h1 d with
    | none => rw [q] at a1; exact False.elim a1
    | some xs =>
      rw [q] at a1
      obtain ⟨p, vs, rfl, f, rs⟩ := lsD_ok hr1 r1 q
      exact ⟨p, vs, rfl, .inl ⟨SqL.of f, fun p hp => newL_ok hr1 rs.rev a1 hp⟩⟩
  cases r1 with
  | @tup xs vs p f rs => exact ⟨p, vs, rfl, .inr ⟨f.sq, fun p hp => newT_ok hr1 rs.rev a1 hp⟩⟩
  | _ => exact lst (fun _ q => by cases q)
theorem se_up {o : Expr} {ap cp : Pos} {mi : Ev → AH → R D} (hl : (ap.endLine == cp.line) = true) (hb : abOk o = true) (he : PE X o (tM X.K E mi)) : PE X (.Call (.Attribute o "upper" ap) [] [] cp) (tM X.K E fun ρ h => (mi ρ h).bind upD) := by
  refine PE.wk (pe_upper he (attr_ns hb _ _) hl) fun σ H Q hq => ?_
  obtain ⟨θ, ρ, h, en, hr, a⟩ := hq
  refine seqE en hr a fun d h1 v θ1 H1 e1 x1 en1 hr1 r1 a1 => ?_
  cases r1 with
  | str x =>
    obtain ⟨c, a1⟩ := After.okb a1
    exact ⟨⟨x, rfl⟩, x, rfl, rfl, of_decide_eq_true c, a1.val hr1 (.str _)⟩
  | _ => exact False.elim a1
/-! ### tables of the module -/
theorem se_gin (G : Good X M E) {n : Bool} {x : Str} {l : Expr} {p pos : Pos} {ma : Ev → AH → R D} (h1 : glB X.env.scope x = true) (h2 : nmOk x = true) (h3 : (M.dt x).isSome = true) (ha : PE X l (tM X.K E ma)) :
    PE X (.Compare l [bif n then .NotIn else .In] [.Name x p] pos) (tM X.K E fun ρ h => (ma ρ h).bind fun d h1 => ginD (M.dt x) n d h1) ∧
    PT X (.Compare l [bif n then .NotIn else .In] [.Name x p] pos) (tMT X.K E fun ρ h => ((ma ρ h).bind fun d h1 => ginD (M.dt x) n d h1).bind truR) := by
  have n1 := Bool.and_eq_true_iff.mp h2
  have n2 := Bool.and_eq_true_iff.mp n1.1
  obtain ⟨t, e⟩ := Option.isSome_iff_exists.mp h3
  obtain ⟨a, es, k, m, kd, tab⟩ := G.dts x t e
  have hb : PE X (.Name x p) (tC (.ref a)) := pe_glob (gl_of rfl h1) m rfl (by simpa using n2.1)
  have hO : OpR X (compareOp (bif n then .NotIn else .In)) (fun v y H Q => ∃ (z : Str) (r : Option Value), v = .str z ∧ y = .ref a ∧ PySem.W.nsIn X.K a z = some r ∧ Q (.bl (n != r.isSome)) H) := by
    cases n with
    | false =>
      have o := op_in_kd kd
      intro pins s σ H x y v u Q I rx ry h
      obtain ⟨z, r, e1, e2, e3, q⟩ := h
      exact o pins s σ H x y v u Q I rx ry ⟨z, r, e1, e2, e3, by rwa [Bool.false_bne] at q⟩
    | true =>
      have o := op_notIn_kd kd
      intro pins s σ H x y v u Q I rx ry h
      obtain ⟨z, r, e1, e2, e3, q⟩ := h
      exact o pins s σ H x y v u Q I rx ry ⟨z, r, e1, e2, e3, by rwa [Bool.true_bne] at q⟩
  have mk : behindInMarks (bif n then .NotIn else .In) (.Name x p) = false := by cases n <;> rfl
  have key : ∀ σ H Q, tM X.K E (fun ρ h => (ma ρ h).bind fun d h1 => ginD (M.dt x) n d h1) σ H Q → tOp (fun v y H Q => ∃ (z : Str) (r : Option Value), v = .str z ∧ y = .ref a ∧ PySem.W.nsIn X.K a z = some r ∧ Q (.bl (n != r.isSome)) H) (tM X.K E ma) (tC (.ref a)) σ H Q := by
    intro σ H Q hq
    obtain ⟨θ, ρ, h, en, hr, af⟩ := hq
    refine seqE en hr af fun d h1 v θ1 H1 e1 x1 en1 hr1 r1 a1 => ?_
    rw [e] at a1
    cases r1 with
    | str z =>
      have tz := tab z
      have a1 : After X.K θ1 H1 E (.ok (.bl (n != (look z t).isSome)) h1) Q := a1
      cases q : look z t with
      | none =>
        rw [q] at tz a1
        exact ⟨z, none, rfl, rfl, tz, a1.val hr1 (.bl _)⟩
      | some d =>
        rw [q] at tz a1
        obtain ⟨u, v, e2, _⟩ := tz
        exact ⟨z, some u, rfl, rfl, e2, a1.val hr1 (.bl _)⟩
    | _ => exact False.elim a1
  refine ⟨PE.wk (pe_cmpR hO ha hb mk) key, PT.wk (pt_cmpR hO ha hb mk) fun σ H Q hq => ?_⟩
  obtain ⟨θ, ρ, h, en, hr, af⟩ := hq
  refine key _ _ _ ⟨θ, ρ, h, en, hr, af.bl fun d h' ed => ?_⟩
  obtain ⟨d0, h0, _, e1⟩ := RD.bind_ok ed
  rw [e] at e1
  unfold ginD at e1
  split at e1
  · cases e1; exact ⟨_, rfl⟩
  · cases e1
theorem se_gix (G : Good X M E) {x : Str} {l : Expr} {p pos : Pos} {ma : Ev → AH → R D} (h1 : glB X.env.scope x = true) (h2 : nmOk x = true) (h3 : (M.dt x).isSome = true) (h4 : notSlice l = true) (ha : PE X l (tM X.K E ma)) :
    PE X (.Subscript (.Name x p) l pos) (tM X.K E fun ρ h => (ma ρ h).bind fun d h1 => gixD (M.dt x) d h1) := by
  have n1 := Bool.and_eq_true_iff.mp h2
  have n2 := Bool.and_eq_true_iff.mp n1.1
  obtain ⟨t, e⟩ := Option.isSome_iff_exists.mp h3
  obtain ⟨a, es, k, m, kd, tab⟩ := G.dts x t e
  have hb : PE X (.Name x p) (tC (.ref a)) := pe_glob (gl_of rfl h1) m rfl (by simpa using n2.1)
  refine PE.wk (pe_ix ix_kdict hb ha (plain_ix h4)) fun σ H Q hq => ?_
  obtain ⟨θ, ρ, h, en, hr, af⟩ := hq
  refine seqE en hr af fun d h1 v θ1 H1 e1 x1 en1 hr1 r1 a1 => ?_
  rw [e] at a1
  cases r1 with
  | str z =>
    have tz := tab z
    have a1 : After X.K θ1 H1 E (match look z t with
      | some e => .ok e h1
      | none => .bad) Q := a1
    cases q : look z t with
    | none => rw [q] at a1; exact False.elim a1
    | some d =>
      rw [q] at tz a1
      obtain ⟨u, v, e2, ru, rp⟩ := tz
      exact ⟨a, z, v, rfl, rfl, ⟨es, k, u, kd.at_, kd.lit, e2, ru⟩, a1.val hr1 (rp _ _)⟩
  | _ => exact False.elim a1
theorem wk_zs {K : PySem.W.Frag} {a b : Addr} {xs ys : List D} {ck : AH → Bool} {L : Th → Hp → Prop} (hl : xs.length = ys.length) (S : ∀ θ H h, L θ H → HRep K θ H h → ck h = true → ∃ vs us, SqT K H a vs ∧ SqT K H b us ∧ Reps K θ H xs vs ∧ Reps K θ H ys us) : Wk K (SZ.ItzS K a b) (zipL xs ys) ck L := by
  refine ⟨fun i θ H h l hr c hi => ?_, fun i θ H h l hr c hi => ?_, fun i θ H h x H' l hr c hi y => ?_⟩
  · obtain ⟨vs, us, s1, s2, r1, r2⟩ := S θ H h l hr c
    rw [zipL_len] at hi
    have l1 := r1.len
    have l2 := r2.len
    exact ⟨vs, us, vs[i]'(by omega), us[i]'(by omega), s1, s2, List.getElem?_eq_getElem _, List.getElem?_eq_getElem _⟩
  · obtain ⟨vs, us, s1, s2, r1, r2⟩ := S θ H h l hr c
    rw [zipL_len] at hi
    have l1 := r1.len
    have l2 := r2.len
    exact ⟨vs, us, s1, s2, by omega, by omega⟩
  · obtain ⟨vs, us, s1, s2, r1, r2⟩ := S θ H h l hr c
    obtain ⟨T, u, v, rfl, hT, rfl, g1, g2⟩ := y
    obtain ⟨d1, e1, q1⟩ := r1.getV (g1 _ s1)
    obtain ⟨d2, e2, q2⟩ := r2.getV (g2 _ s2)
    refine ⟨.tup [d1, d2], zipL_get e1 e2, Ext.laid hT, fun a ha => upd_ne (by rintro rfl; exact ha hT), .tup (.inl ⟨.inl upd_same, hr.fresh hT⟩) (.cons (q1.mono (Ext.laid hT)) (.cons (q2.mono (Ext.laid hT)) .nil))⟩
theorem it_zips (G : Good X M E) {tg x y : Expr} {p p2 kp cp : Pos} {cj : Nat} {a b : Mp.E} (ht : isTupE tg = true) (hg : glB X.env.scope "zip" = true) (hf : M.fr "zip" = true) (hx : notStar x = true) (hy : notStar y = true) (ha : PA X [x, y] (tML X.K E (evs M (.cons a (.cons b .nil))))) :
    PI X tg (.Call (.Name "zip" p) [x, y] [⟨some (Str.ofString "strict"), .Constant (.bool true) cj cp, kp⟩] p2) (iM X.K E fun ρ h => (ev M a ρ h).bind fun x h1 => (ev M b ρ h1).bind fun y h2 => zipsD x y h2) := by
  cases tg with
  | Tuple elts kk tpos =>
    refine PI.wk (SZ.pi_zs (gl_of rfl hg) (G.free _ hf) ha (starEach_ns hx) (by rw [starEach_ns hx, starEach_ns hy]; rfl)) fun σ H Q hq => ?_
    obtain ⟨θ, ρ, h, en, hr, a0⟩ := hq
    dsimp only at a0
    refine ⟨θ, ρ, h, en, hr, ?_⟩
    show AfterL X.K θ H E ((ev M a ρ h).bind fun x h1 => ((ev M b ρ h1).bind fun y h2 => R.ok [y] h2).bind fun xs h2 => R.ok (x :: xs) h2) _
    cases q1 : ev M a ρ h with
    | bad => rw [q1] at a0; exact a0
    | exc c fs h' => rw [q1] at a0; exact a0
    | ok d h1 =>
      rw [q1] at a0
      cases q2 : ev M b ρ h1 with
      | bad => simp only [R.bind, q2] at a0; exact False.elim a0
      | exc c fs h' => simp only [R.bind, q2] at a0 ⊢; exact a0
      | ok e h2 =>
        simp only [R.bind, q2] at a0 ⊢
        intro vs θ1 H1 x1 hr1 rs
        obtain ⟨vx, vy, rfl, r1, r2⟩ := rs.two
        unfold zipsD at a0
        split at a0
        · rename_i xs ys
          split at a0
          · rename_i hl
            cases r1 with
            | @tup _ vs1 p1 f1 s1 => cases r2 with
              | @tup _ vs2 p2 f2 s2 =>
                refine ⟨p1, p2, vs1, vs2, rfl, f1.sq, f2.sq, ?_⟩
                refine a0 _ θ1 H1 (fun θ H => Rep X.K θ H (.tup xs) (.ref p1) ∧ Rep X.K θ H (.tup ys) (.ref p2)) x1 hr1 (wk_zs hl fun θ H h l hr c => ?_) (fun _ _ _ _ mv l => ⟨l.1.mv mv, l.2.mv mv⟩) (fun _ _ _ _ x l => ⟨l.1.mono x, l.2.mono x⟩) ⟨.tup f1 s1, .tup f2 s2⟩
                obtain ⟨k1, k2⟩ := l
                cases k1 with
                | tup g1 t1 => cases k2 with
                  | tup g2 t2 => exact ⟨_, _, g1.sq, g2.sq, t1, t2⟩
          · exact False.elim a0
        · exact False.elim a0
  | _ => cases ht
/-! ### the little text's computation is what the model does -/
structure Snd (M : Mdl) (N : List Str) (c : Mp.E) : Prop where
  e : ∀ (X : Cx) (E : XW), Good X M E → X.N = N → ∀ ex, chkE M N c X.env.scope ex = true → PE X ex (tM X.K E (ev M c)) ∧ (notIf ex = true → PT X ex (tMT X.K E fun ρ h => (ev M c ρ h).bind truR))
  a : ∀ (X : Cx) (E : XW), Good X M E → X.N = N → ∀ es, chkA M N c X.env.scope es = true → PEs X E M c es ∧ (es.all notIf = true → PTl X E M c es)
  o : ∀ (X : Cx) (E : XW), Good X M E → X.N = N → ∀ ex, chkO M N c X.env.scope ex = true → PO X ex (tMO X.K E fun ρ h => prt c (ev M c ρ h) h)
  i : ∀ (X : Cx) (E : XW), Good X M E → X.N = N → ∀ ifs, chkI M N c X.env.scope ifs = true → PTs X ifs (tMT X.K E fun ρ h => tst c (ev M c ρ h) h)
  t : ∀ (X : Cx) (E : XW), Good X M E → X.N = N → ∀ tg ex, chkT M N c X.env.scope (isTupE tg) ex = true → PI X tg ex (iM X.K E (evI M c)) ∧ ∀ x, foldedSetIterable ex X.env x = pure x
theorem Snd.plain {c : Mp.E} (he : ∀ (X : Cx) (E : XW), Good X M E → X.N = N → ∀ ex, chkE M N c X.env.scope ex = true → PE X ex (tM X.K E (ev M c)) ∧ (notIf ex = true → PT X ex (tMT X.K E fun ρ h => (ev M c ρ h).bind truR)))
    (ha : ∀ sc es, chkA M N c sc es = false) (ho : ∀ sc ex, chkO M N c sc ex = false) (hi : ∀ sc ifs, chkI M N c sc ifs = false) (ht : ∀ sc tt ex, chkT M N c sc tt ex = false) : Snd M N c :=
  ⟨he, fun X E G hN es h => absurd h (by rw [ha]; exact Bool.false_ne_true), fun X E G hN ex h => absurd h (by rw [ho]; exact Bool.false_ne_true), fun X E G hN ex h => absurd h (by rw [hi]; exact Bool.false_ne_true), fun X E G hN tg ex h => absurd h (by rw [ht]; exact Bool.false_ne_true)⟩
/-- an expression that is tested by its value -/
theorem pl {e : Expr} {m : Ev → AH → R D} (hp : plainT e = true) (h : PE X e (tM X.K E m)) : PE X e (tM X.K E m) ∧ (notIf e = true → PT X e (tMT X.K E fun ρ h => (m ρ h).bind truR)) := ⟨h, fun _ => tst_of h hp⟩
theorem sound (M : Mdl) (N : List Str) (c : Mp.E) : Snd M N c := by
  induction c with
  | k d =>
    refine .plain (fun X E G hN ex h => ?_) (fun _ es => by cases es <;> rfl) (fun _ ex => by cases ex <;> rfl) (fun _ ifs => by cases ifs <;> rfl) (fun _ _ _ => rfl)
    cases ex with
    | Constant c j pos => exact pl rfl (se_k h)
    | _ => cases h
  | v i =>
    refine .plain (fun X E G hN ex h => ?_) (fun _ es => by cases es <;> rfl) (fun _ ex => by cases ex <;> rfl) (fun _ ifs => by cases ifs <;> rfl) (fun _ _ _ => rfl)
    cases ex with
    | Name x pos =>
      have h1 := Bool.and_eq_true_iff.mp (show (decide (N[i]? = some x) && (visB X.env.scope x && nmOk x)) = true from h)
      have h2 := Bool.and_eq_true_iff.mp h1.2
      exact pl rfl (se_v rfl (by rw [hN]; exact of_decide_eq_true h1.1) h2.1 h2.2)
    | _ => cases h
  | g y d =>
    refine .plain (fun X E G hN ex h => ?_) (fun _ es => by cases es <;> rfl) (fun _ ex => by cases ex <;> rfl) (fun _ ifs => by cases ifs <;> rfl) (fun _ _ _ => rfl)
    cases ex with
    | Name x pos =>
      have h1 := Bool.and_eq_true_iff.mp h
      have h2 := Bool.and_eq_true_iff.mp h1.2
      have h3 := Bool.and_eq_true_iff.mp h2.2
      exact pl rfl (se_g G rfl h2.1 h3.1 h3.2)
    | _ => cases h
  | t y n =>
    refine .plain (fun X E G hN ex h => ?_) (fun _ es => by cases es <;> rfl) (fun _ ex => by cases ex <;> rfl) (fun _ ifs => by cases ifs <;> rfl) (fun _ _ _ => rfl)
    cases ex with
    | Name x pos =>
      have h1 := Bool.and_eq_true_iff.mp h
      have h2 := Bool.and_eq_true_iff.mp h1.2
      have h3 := Bool.and_eq_true_iff.mp h2.2
      have h4 := Bool.and_eq_true_iff.mp h3.2
      exact pl rfl (se_t G rfl h2.1 h3.1 h4.1 (of_decide_eq_true h4.2))
    | _ => cases h
  | bin m op a b ia ib =>
    refine .plain (fun X E G hN ex h => ?_) (fun _ es => by cases es <;> rfl) (fun _ ex => by cases ex <;> rfl) (fun _ ifs => by cases ifs <;> rfl) (fun _ _ _ => rfl)
    cases ex with
    | BinOp l o r pos =>
      have h1 := Bool.and_eq_true_iff.mp h
      have h2 := Bool.and_eq_true_iff.mp h1.2
      have h3 := Bool.and_eq_true_iff.mp h2.2
      obtain rfl : op = o := of_decide_eq_true h1.1
      exact pl rfl (se_bin h2.1 (ia.e X E G hN l h3.1).1 (ib.e X E G hN r h3.2).1)
    | _ => cases h
  | neg a ia =>
    refine .plain (fun X E G hN ex h => ?_) (fun _ es => by cases es <;> rfl) (fun _ ex => by cases ex <;> rfl) (fun _ ifs => by cases ifs <;> rfl) (fun _ _ _ => rfl)
    cases ex with
    | UnaryOp o x pos => cases o with
      | USub => exact pl rfl (se_neg (ia.e X E G hN x h).1)
      | _ => cases h
    | _ => cases h
  | cmp op a b ia ib =>
    refine .plain (fun X E G hN ex h => ?_) (fun _ es => by cases es <;> rfl) (fun _ ex => by cases ex <;> rfl) (fun _ ifs => by cases ifs <;> rfl) (fun _ _ _ => rfl)
    cases ex with
    | Compare l ops rs pos => cases ops with
      | nil => cases h
      | cons o os => cases os with
        | cons _ _ => cases rs with
          | nil => cases h
          | cons r rs => cases rs <;> cases h
        | nil => cases rs with
          | nil => cases h
          | cons r rs => cases rs with
            | cons _ _ => cases h
            | nil =>
              have h1 := Bool.and_eq_true_iff.mp h
              have h2 := Bool.and_eq_true_iff.mp h1.2
              have h3 := Bool.and_eq_true_iff.mp h2.2
              obtain rfl : op = o := of_decide_eq_true h1.1
              have z := se_cmp (pos := pos) (op := op) G h2.1 (ia.e X E G hN l h3.1).1 (ib.e X E G hN r h3.2).1
              exact ⟨z.1, fun _ => z.2⟩
    | _ => cases h
  | chain o1 o2 a b c ia ib ic =>
    refine .plain (fun X E G hN ex h => ?_) (fun _ es => by cases es <;> rfl) (fun _ ex => by cases ex <;> rfl) (fun _ ifs => by cases ifs <;> rfl) (fun _ _ _ => rfl)
    cases ex with
    | Compare l ops rs pos => cases ops with
      | nil => cases h
      | cons p1 os => cases os with
        | nil => cases rs with
          | nil => cases h
          | cons r rs => cases rs <;> cases h
        | cons p2 os => cases os with
          | cons _ _ => cases h
          | nil => cases rs with
            | nil => cases h
            | cons r1 rs => cases rs with
              | nil => cases h
              | cons r2 rs => cases rs with
                | cons _ _ => cases h
                | nil =>
                  have h1 := Bool.and_eq_true_iff.mp h
                  have h2 := Bool.and_eq_true_iff.mp h1.2
                  have h3 := Bool.and_eq_true_iff.mp h2.2
                  have h4 := Bool.and_eq_true_iff.mp h3.2
                  have h5 := Bool.and_eq_true_iff.mp h4.2
                  obtain rfl : o1 = p1 := of_decide_eq_true h1.1
                  obtain rfl : o2 = p2 := of_decide_eq_true h2.1
                  have z := se_chain (pos := pos) (o1 := o1) (o2 := o2) G h3.1 (ia.e X E G hN l h4.1).1 (ib.e X E G hN r1 h5.1).1 (ic.e X E G hN r2 h5.2).1
                  exact ⟨z.1, fun _ => z.2⟩
    | _ => cases h
  | andL es ih =>
    refine .plain (fun X E G hN ex h => ?_) (fun _ es => by cases es <;> rfl) (fun _ ex => by cases ex <;> rfl) (fun _ ifs => by cases ifs <;> rfl) (fun _ _ _ => rfl)
    cases ex with
    | BoolOp op xs pos => cases op with
      | Or => cases xs <;> cases h
      | And => cases xs with
        | nil => cases h
        | cons x xs =>
          have h1 := Bool.and_eq_true_iff.mp h
          have z := ih.a X E G hN (x :: xs) h1.1
          exact ⟨and_of h1.1 z.1, fun _ => (andT_of h1.1 (z.2 h1.2)).pt⟩
    | _ => cases h
  | orL es ih =>
    refine .plain (fun X E G hN ex h => ?_) (fun _ es => by cases es <;> rfl) (fun _ ex => by cases ex <;> rfl) (fun _ ifs => by cases ifs <;> rfl) (fun _ _ _ => rfl)
    cases ex with
    | BoolOp op xs pos => cases op with
      | And => cases xs <;> cases h
      | Or => cases xs with
        | nil => cases h
        | cons x xs =>
          have h1 := Bool.and_eq_true_iff.mp h
          have z := ih.a X E G hN (x :: xs) h1.1
          exact ⟨or_of h1.1 z.1, fun _ => (orT_of h1.1 (z.2 h1.2)).pt⟩
    | _ => cases h
  | not1 a ia =>
    refine .plain (fun X E G hN ex h => ?_) (fun _ es => by cases es <;> rfl) (fun _ ex => by cases ex <;> rfl) (fun _ ifs => by cases ifs <;> rfl) (fun _ _ _ => rfl)
    cases ex with
    | UnaryOp o x pos => cases o with
      | Not =>
        have h1 := Bool.and_eq_true_iff.mp h
        have z := ia.e X E G hN x h1.1
        have y := se_not (pos := pos) z.1 (z.2 h1.2)
        exact ⟨y.1, fun _ => y.2⟩
      | _ => cases h
    | _ => cases h
  | ife t a b it ia ib =>
    refine .plain (fun X E G hN ex h => ?_) (fun _ es => by cases es <;> rfl) (fun _ ex => by cases ex <;> rfl) (fun _ ifs => by cases ifs <;> rfl) (fun _ _ _ => rfl)
    cases ex with
    | IfExp c x y pos =>
      have h1 := Bool.and_eq_true_iff.mp h
      have h2 := Bool.and_eq_true_iff.mp h1.2
      have h3 := Bool.and_eq_true_iff.mp h2.2
      exact ⟨se_ife ((it.e X E G hN c h2.1).2 h1.1) (ia.e X E G hN x h3.1).1 (ib.e X E G hN y h3.2).1, fun z => by cases z⟩
    | _ => cases h
  | tup es ih =>
    refine .plain (fun X E G hN ex h => ?_) (fun _ es => by cases es <;> rfl) (fun _ ex => by cases ex <;> rfl) (fun _ ifs => by cases ifs <;> rfl) (fun _ _ _ => rfl)
    cases ex with
    | Tuple xs k pos => exact pl rfl (se_tup (pa_of h (ih.a X E G hN xs h).1))
    | _ => cases h
  | lst m es ih =>
    refine .plain (fun X E G hN ex h => ?_) (fun _ es => by cases es <;> rfl) (fun _ ex => by cases ex <;> rfl) (fun _ ifs => by cases ifs <;> rfl) (fun _ _ _ => rfl)
    cases ex with
    | List xs pos => exact pl rfl (se_lst (pa_of h (ih.a X E G hN xs h).1))
    | _ => cases h
  | dic0 =>
    refine .plain (fun X E G hN ex h => ?_) (fun _ es => by cases es <;> rfl) (fun _ ex => by cases ex <;> rfl) (fun _ ifs => by cases ifs <;> rfl) (fun _ _ _ => rfl)
    cases ex with
    | Dict ks vs pos => cases ks with
      | nil => cases vs with
        | nil => exact pl rfl se_dic0
        | cons _ _ => cases h
      | cons _ _ => cases h
    | _ => cases h
  | dic1 k d =>
    refine .plain (fun X E G hN ex h => ?_) (fun _ es => by cases es <;> rfl) (fun _ ex => by cases ex <;> rfl) (fun _ ifs => by cases ifs <;> rfl) (fun _ _ _ => rfl)
    cases ex with
    | Dict ks vs pos => cases ks with
      | nil => cases h
      | cons o ks => cases o with
        | none => cases h
        | some kx => cases kx with
          | Constant kc kj kp => cases kc with
            | str x => cases ks with
              | cons _ _ => cases h
              | nil => cases vs with
                | nil => cases h
                | cons v vs => cases v with
                  | Constant c j p => cases vs with
                    | cons _ _ => cases h
                    | nil =>
                      have h1 := Bool.and_eq_true_iff.mp h
                      obtain rfl : k = x := of_decide_eq_true h1.1
                      exact pl rfl (se_dic1 h1.2)
                  | _ => cases vs <;> cases h
            | _ => cases h
          | _ => cases h
    | _ => cases h
  | call f es ih =>
    refine .plain (fun X E G hN ex h => ?_) (fun _ es => by cases es <;> rfl) (fun _ ex => by cases ex <;> rfl) (fun _ ifs => by cases ifs <;> rfl) (fun _ _ _ => rfl)
    cases ex with
    | Call fx xs kws pos => cases fx with
      | Name x p => cases kws with
        | cons _ _ => cases xs <;> cases h
        | nil =>
          have h1 := Bool.and_eq_true_iff.mp h
          have h2 := Bool.and_eq_true_iff.mp h1.2
          have h3 := Bool.and_eq_true_iff.mp h2.2
          have h4 := Bool.and_eq_true_iff.mp h3.2
          obtain rfl : f = x := of_decide_eq_true h1.1
          exact pl rfl (se_call G rfl h2.1 h3.1 h4.1 h4.2 (pa_of h4.2 (ih.a X E G hN xs h4.2).1))
      | _ => cases h
    | _ => cases h
  | callk f ks es ih =>
    refine .plain (fun X E G hN ex h => ?_) (fun _ es => by cases es <;> rfl) (fun _ ex => by cases ex <;> rfl) (fun _ ifs => by cases ifs <;> rfl) (fun _ _ _ => rfl)
    cases ex with
    | Call fx xs kws pos => cases fx with
      | Name x p => cases xs with
        | cons _ _ => cases h
        | nil =>
          have h1 := Bool.and_eq_true_iff.mp h
          have h2 := Bool.and_eq_true_iff.mp h1.2
          have h3 := Bool.and_eq_true_iff.mp h2.2
          have h4 := Bool.and_eq_true_iff.mp h3.2
          have h5 := Bool.and_eq_true_iff.mp h4.2
          obtain rfl : f = x := of_decide_eq_true h1.1
          exact pl rfl (se_callk G rfl h2.1 h3.1 h4.1 h5.1 h5.2 (ih.a X E G hN _ h5.2).1)
      | _ => cases h
    | _ => cases h
  | bi b es ih =>
    refine .plain (fun X E G hN ex h => ?_) (fun _ es => by cases es <;> rfl) (fun _ ex => by cases ex <;> rfl) (fun _ ifs => by cases ifs <;> rfl) (fun _ _ _ => rfl)
    cases ex with
    | Call fx xs kws pos => cases fx with
      | Name x p => cases xs with
        | nil => cases h
        | cons y ys => cases kws with
          | cons _ _ => cases h
          | nil =>
            have h1 := Bool.and_eq_true_iff.mp h
            have h2 := Bool.and_eq_true_iff.mp h1.2
            have h3 := Bool.and_eq_true_iff.mp h2.2
            have h4 := Bool.and_eq_true_iff.mp h3.2
            obtain rfl : b.name = x := of_decide_eq_true h1.1
            exact pl rfl (se_bi G rfl h2.1 h3.1 h4.1 h4.2 (pa_of h4.2 (ih.a X E G hN _ h4.2).1))
      | _ => cases h
    | _ => cases h
  | mt t o es io ih =>
    refine .plain (fun X E G hN ex h => ?_) (fun _ es => by cases es <;> rfl) (fun _ ex => by cases ex <;> rfl) (fun _ ifs => by cases ifs <;> rfl) (fun _ _ _ => rfl)
    cases ex with
    | Call fx xs kws pos => cases fx with
      | Attribute x n ap => cases xs with
        | nil => cases h
        | cons y ys => cases kws with
          | cons _ _ => cases h
          | nil =>
            have h1 := Bool.and_eq_true_iff.mp h
            have h2 := Bool.and_eq_true_iff.mp h1.2
            have h3 := Bool.and_eq_true_iff.mp h2.2
            have h4 := Bool.and_eq_true_iff.mp h3.2
            have h5 := Bool.and_eq_true_iff.mp h4.2
            obtain rfl : t.name = n := of_decide_eq_true h1.1
            exact pl rfl (se_mt h2.1 (of_decide_eq_true h3.1) h4.1 h5.2 (io.e X E G hN x h5.1).1 (pa_of h5.2 (ih.a X E G hN _ h5.2).1))
      | _ => cases h
    | _ => cases h
  | ix a i ia ii =>
    refine .plain (fun X E G hN ex h => ?_) (fun _ es => by cases es <;> rfl) (fun _ ex => by cases ex <;> rfl) (fun _ ifs => by cases ifs <;> rfl) (fun _ _ _ => rfl)
    cases ex with
    | Subscript x y pos =>
      have h1 := Bool.and_eq_true_iff.mp h
      have h2 := Bool.and_eq_true_iff.mp h1.2
      exact pl rfl (se_ix h1.1 (ia.e X E G hN x h2.1).1 (ii.e X E G hN y h2.2).1)
    | _ => cases h
  | sl m a lo hi ia il ih =>
    refine .plain (fun X E G hN ex h => ?_) (fun _ es => by cases es <;> rfl) (fun _ ex => by cases ex <;> rfl) (fun _ ifs => by cases ifs <;> rfl) (fun _ _ _ => rfl)
    cases ex with
    | Subscript x y pos => cases y with
      | Slice l u st p2 => cases st with
        | some _ => cases h
        | none =>
          have h1 := Bool.and_eq_true_iff.mp h
          have h2 := Bool.and_eq_true_iff.mp h1.2
          exact pl rfl (se_sl (ia.e X E G hN x h1.1).1 (il.o X E G hN l h2.1) (ih.o X E G hN u h2.2))
      | _ => cases h
    | _ => cases h
  | lc m t it c el it' ic ie =>
    refine .plain (fun X E G hN ex h => ?_) (fun _ es => by cases es <;> rfl) (fun _ ex => by cases ex <;> rfl) (fun _ ifs => by cases ifs <;> rfl) (fun _ _ _ => rfl)
    cases ex with
    | ListComp e gs scope pos => cases gs with
      | nil => cases h
      | cons g0 gs => cases gs with
        | cons _ _ =>
          exfalso
          unfold chkE at h
          split at h <;> simp_all
        | nil =>
          obtain ⟨tg, x, ifs, as⟩ := g0
          by_cases ha : as = 0
          · subst ha
            have h1 := Bool.and_eq_true_iff.mp h
            have h2 := Bool.and_eq_true_iff.mp h1.2
            have h3 := Bool.and_eq_true_iff.mp h2.2
            have h4 := Bool.and_eq_true_iff.mp h3.2
            have z := it'.t X E G hN tg x h1.1
            exact pl rfl (se_lc G hN z.1 z.2 h2.1 h3.1 (fun s H C cl fp => ic.i _ E0 (G.blk s H scope _ fp) hN ifs h4.1) (fun s H C cl fp => (ie.e _ E0 (G.blk s H scope _ fp) hN e h4.2).1)).1
          · exfalso
            unfold chkE at h
            split at h <;> simp_all
    | _ => cases h
  | rev m a ia =>
    refine .plain (fun X E G hN ex h => ?_) (fun _ es => by cases es <;> rfl) (fun _ ex => by cases ex <;> rfl) (fun _ ifs => by cases ifs <;> rfl) (fun _ _ _ => rfl)
    unfold chkE at h
    split at h <;> first | cases h | skip
    all_goals (rename_i q; cases q)
    have h1 := Bool.and_eq_true_iff.mp h
    obtain rfl := of_decide_eq_true h1.1
    exact pl rfl (se_rev (ia.e X E G hN _ h1.2).1)
  | up a ia =>
    refine .plain (fun X E G hN ex h => ?_) (fun _ es => by cases es <;> rfl) (fun _ ex => by cases ex <;> rfl) (fun _ ifs => by cases ifs <;> rfl) (fun _ _ _ => rfl)
    unfold chkE at h
    split at h <;> first | cases h | skip
    all_goals (rename_i q; cases q)
    have h1 := Bool.and_eq_true_iff.mp h
    have h2 := Bool.and_eq_true_iff.mp h1.2
    have h3 := Bool.and_eq_true_iff.mp h2.2
    obtain rfl := of_decide_eq_true h1.1
    exact pl rfl (se_up h2.1 h3.1 (ia.e X E G hN _ h3.2).1)
  | srs m a ia =>
    refine .plain (fun X E G hN ex h => ?_) (fun _ es => by cases es <;> rfl) (fun _ ex => by cases ex <;> rfl) (fun _ ifs => by cases ifs <;> rfl) (fun _ _ _ => rfl)
    unfold chkE at h
    split at h <;> first | cases h | skip
    all_goals (rename_i q; cases q)
    have h1 := Bool.and_eq_true_iff.mp h
    have h2 := Bool.and_eq_true_iff.mp h1.2
    have h3 := Bool.and_eq_true_iff.mp h2.2
    have h4 := Bool.and_eq_true_iff.mp h3.2
    have h5 := Bool.and_eq_true_iff.mp h4.2
    have h6 := Bool.and_eq_true_iff.mp h5.2
    have h7 := Bool.and_eq_true_iff.mp h6.2
    obtain rfl := of_decide_eq_true h1.1
    obtain rfl := of_decide_eq_true h2.1
    exact pl rfl (se_srs G.calm (gl_of rfl h3.1) (G.free _ h5.1) (gl_of rfl h4.1) (G.free _ h6.1) (by rw [starEach_ns h7.1]; rfl) (ia.e X E G hN _ h7.2).1)
  | gin n x a ia =>
    refine .plain (fun X E G hN ex h => ?_) (fun _ es => by cases es <;> rfl) (fun _ ex => by cases ex <;> rfl) (fun _ ifs => by cases ifs <;> rfl) (fun _ _ _ => rfl)
    unfold chkE at h
    split at h <;> first | cases h | skip
    all_goals (rename_i q; cases q)
    have h1 := Bool.and_eq_true_iff.mp h
    have h2 := Bool.and_eq_true_iff.mp h1.2
    have h3 := Bool.and_eq_true_iff.mp h2.2
    have h4 := Bool.and_eq_true_iff.mp h3.2
    have h5 := Bool.and_eq_true_iff.mp h4.2
    obtain rfl := of_decide_eq_true h1.1
    obtain rfl := of_decide_eq_true h2.1
    exact ⟨(se_gin (n := n) G h3.1 h4.1 h5.1 (ia.e X E G hN _ h5.2).1).1, fun _ => (se_gin (n := n) G h3.1 h4.1 h5.1 (ia.e X E G hN _ h5.2).1).2⟩
  | gix x a ia =>
    refine .plain (fun X E G hN ex h => ?_) (fun _ es => by cases es <;> rfl) (fun _ ex => by cases ex <;> rfl) (fun _ ifs => by cases ifs <;> rfl) (fun _ _ _ => rfl)
    unfold chkE at h
    split at h <;> first | cases h | skip
    all_goals (rename_i q; cases q)
    have h1 := Bool.and_eq_true_iff.mp h
    have h2 := Bool.and_eq_true_iff.mp h1.2
    have h3 := Bool.and_eq_true_iff.mp h2.2
    have h4 := Bool.and_eq_true_iff.mp h3.2
    have h5 := Bool.and_eq_true_iff.mp h4.2
    obtain rfl := of_decide_eq_true h1.1
    exact pl rfl (se_gix G h2.1 h3.1 h4.1 h5.1 (ia.e X E G hN _ h5.2).1)
  | zips a b ia ib =>
    refine ⟨fun X E G hN ex h => (by cases ex <;> cases h), fun X E G hN es h => (by cases es <;> cases h), fun X E G hN ex h => (by cases ex <;> cases h), fun X E G hN ifs h => (by cases ifs <;> cases h), fun X E G hN tg ex h => ?_⟩
    unfold chkT at h
    split at h <;> first | cases h | skip
    all_goals (rename_i q; cases q)
    have h1 := Bool.and_eq_true_iff.mp h
    have h2 := Bool.and_eq_true_iff.mp h1.2
    have h3 := Bool.and_eq_true_iff.mp h2.2
    have h4 := Bool.and_eq_true_iff.mp h3.2
    have h5 := Bool.and_eq_true_iff.mp h4.2
    have h6 := Bool.and_eq_true_iff.mp h5.2
    have h7 := Bool.and_eq_true_iff.mp h6.2
    have h8 := Bool.and_eq_true_iff.mp h7.2
    obtain rfl := of_decide_eq_true h2.1
    obtain rfl := of_decide_eq_true h3.1
    rename_i x y _ _ _ _
    have hc : chkA M N (.cons a (.cons b .nil)) X.env.scope [x, y] = true := by
      show (notStar x && (chkE M N a X.env.scope x && (notStar y && (chkE M N b X.env.scope y && true)))) = true
      rw [h6.1, h7.1, h8.1, h8.2]
      rfl
    exact ⟨it_zips G h1.1 h4.1 h5.1 h6.1 h7.1 (pa_of hc ⟨(ia.e X E G hN x h8.1).1, (ib.e X E G hN y h8.2).1, trivial⟩), fun _ => rfl⟩
  | rng a ia =>
    refine ⟨fun X E G hN ex h => (by cases ex <;> cases h), fun X E G hN es h => (by cases es <;> cases h), fun X E G hN ex h => (by cases ex <;> cases h), fun X E G hN ifs h => (by cases ifs <;> cases h), fun X E G hN tg ex h => ?_⟩
    cases ex with
    | Call fx xs kws p2 => cases fx with
      | Name r p => cases kws with
        | cons _ _ => cases h
        | nil =>
          have h1 := Bool.and_eq_true_iff.mp h
          have h2 := Bool.and_eq_true_iff.mp h1.2
          have h3 := Bool.and_eq_true_iff.mp h2.2
          have h4 := Bool.and_eq_true_iff.mp h3.2
          obtain rfl : r = "range" := of_decide_eq_true h1.1
          exact ⟨it_rng G h2.1 h3.1 (of_decide_eq_true h4.1) h4.2 (pa_of h4.2 (ia.a X E G hN _ h4.2).1), fun _ => rfl⟩
      | _ => cases h
    | _ => cases h
  | zip a b ia ib =>
    refine ⟨fun X E G hN ex h => (by cases ex <;> cases h), fun X E G hN es h => (by cases es <;> cases h), fun X E G hN ex h => (by cases ex <;> cases h), fun X E G hN ifs h => (by cases ifs <;> cases h), fun X E G hN tg ex h => ?_⟩
    cases ex with
    | Call fx xs kws p2 => cases fx with
      | Name r p => cases xs with
        | nil => cases kws <;> cases h
        | cons x xs => cases xs with
          | nil => cases kws <;> cases h
          | cons y xs => cases xs with
            | cons _ _ => cases kws <;> cases h
            | nil => cases kws with
              | cons _ _ => cases h
              | nil =>
                have h1 := Bool.and_eq_true_iff.mp h
                have h2 := Bool.and_eq_true_iff.mp h1.2
                have h3 := Bool.and_eq_true_iff.mp h2.2
                have h4 := Bool.and_eq_true_iff.mp h3.2
                have h5 := Bool.and_eq_true_iff.mp h4.2
                have h6 := Bool.and_eq_true_iff.mp h5.2
                have h7 := Bool.and_eq_true_iff.mp h6.2
                obtain rfl : r = "zip" := of_decide_eq_true h2.1
                have hc : chkA M N (.cons a (.cons b .nil)) X.env.scope [x, y] = true := by
                  show (notStar x && (chkE M N a X.env.scope x && (notStar y && (chkE M N b X.env.scope y && true)))) = true
                  rw [h5.1, h6.1, h7.1, h7.2]
                  rfl
                exact ⟨it_zip G h1.1 h3.1 h4.1 h5.1 h6.1 (pa_of hc ⟨(ia.e X E G hN x h7.1).1, (ib.e X E G hN y h7.2).1, trivial⟩), fun _ => rfl⟩
      | _ => cases h
    | _ => cases h
  | new c es ih =>
    refine .plain (fun X E G hN ex h => ?_) (fun _ es => by cases es <;> rfl) (fun _ ex => by cases ex <;> rfl) (fun _ ifs => by cases ifs <;> rfl) (fun _ _ _ => rfl)
    cases ex with
    | Call fx xs kws pos => cases fx with
      | Name x p => cases kws with
        | cons _ _ => cases xs <;> cases h
        | nil =>
          have h1 := Bool.and_eq_true_iff.mp h
          have h2 := Bool.and_eq_true_iff.mp h1.2
          have h3 := Bool.and_eq_true_iff.mp h2.2
          have h4 := Bool.and_eq_true_iff.mp h3.2
          obtain rfl : c = x := of_decide_eq_true h1.1
          exact pl rfl (se_new G rfl h2.1 h3.1 h4.1 h4.2 (pa_of h4.2 (ih.a X E G hN xs h4.2).1))
      | _ => cases xs <;> cases kws <;> cases h
    | _ => cases h
  | newk c ks es ih =>
    refine .plain (fun X E G hN ex h => ?_) (fun _ es => by cases es <;> rfl) (fun _ ex => by cases ex <;> rfl) (fun _ ifs => by cases ifs <;> rfl) (fun _ _ _ => rfl)
    cases ex with
    | Call fx xs kws pos => cases fx with
      | Name x p => cases xs with
        | cons _ _ => cases kws <;> cases h
        | nil =>
          have h1 := Bool.and_eq_true_iff.mp h
          have h2 := Bool.and_eq_true_iff.mp h1.2
          have h3 := Bool.and_eq_true_iff.mp h2.2
          have h4 := Bool.and_eq_true_iff.mp h3.2
          have h5 := Bool.and_eq_true_iff.mp h4.2
          have h6 := Bool.and_eq_true_iff.mp h5.2
          obtain rfl : c = x := of_decide_eq_true h1.1
          exact pl rfl (se_newk G rfl h2.1 h3.1 h4.1 h5.1 h6.1 h6.2 (ih.a X E G hN _ h6.2).1)
      | _ => cases xs <;> cases kws <;> cases h
    | _ => cases h
  | fld a f ia =>
    refine .plain (fun X E G hN ex h => ?_) (fun _ es => by cases es <;> rfl) (fun _ ex => by cases ex <;> rfl) (fun _ ifs => by cases ifs <;> rfl) (fun _ _ _ => rfl)
    cases ex with
    | Attribute x n pos =>
      have h1 := Bool.and_eq_true_iff.mp h
      have h2 := Bool.and_eq_true_iff.mp h1.2
      obtain rfl : f = n := of_decide_eq_true h1.1
      exact pl rfl (se_fld G h2.1 (ia.e X E G hN x h2.2).1)
    | _ => cases h
  | isx a c ia =>
    refine .plain (fun X E G hN ex h => ?_) (fun _ es => by cases es <;> rfl) (fun _ ex => by cases ex <;> rfl) (fun _ ifs => by cases ifs <;> rfl) (fun _ _ _ => rfl)
    cases ex with
    | Call fx xs kws pos => cases fx with
      | Name r p => cases xs with
        | nil => cases kws <;> cases h
        | cons x xs => cases xs with
          | nil => cases kws <;> cases h
          | cons y xs => cases xs with
            | cons _ _ => cases y <;> cases kws <;> cases h
            | nil => cases y with
              | Name y q => cases kws with
                | cons _ _ => cases h
                | nil =>
                  have h1 := Bool.and_eq_true_iff.mp h
                  have h2 := Bool.and_eq_true_iff.mp h1.2
                  have h3 := Bool.and_eq_true_iff.mp h2.2
                  have h4 := Bool.and_eq_true_iff.mp h3.2
                  have h5 := Bool.and_eq_true_iff.mp h4.2
                  have h6 := Bool.and_eq_true_iff.mp h5.2
                  have h7 := Bool.and_eq_true_iff.mp h6.2
                  have h8 := Bool.and_eq_true_iff.mp h7.2
                  obtain rfl : r = "isinstance" := of_decide_eq_true h1.1
                  obtain rfl : c = y := of_decide_eq_true h4.1
                  exact pl rfl (se_isx G rfl h2.1 h3.1 h5.1 h6.1 h7.1 h8.1 (ia.e X E G hN x h8.2).1)
              | _ => cases kws <;> cases h
      | _ => cases xs <;> cases kws <;> cases h
    | _ => cases h
  | sq e ie =>
    refine ⟨fun X E G hN ex h => (by cases ex <;> cases h), fun X E G hN es h => (by cases es <;> cases h), fun X E G hN ex h => (by cases ex <;> cases h), fun X E G hN ifs h => (by cases ifs <;> cases h), fun X E G hN tg ex h => ?_⟩
    have h1 := Bool.and_eq_true_iff.mp h
    exact ⟨it_seq (ie.e X E G hN ex h1.2).1, fold_ns h1.1 X.env⟩
  | no =>
    refine ⟨fun X E G hN ex h => (by cases h), fun X E G hN es h => (by cases es <;> cases h), fun X E G hN ex h => ?_, fun X E G hN ifs h => ?_, fun X E G hN tg ex h => (by cases h)⟩
    · cases ex with
      | none => exact so_none
      | some _ => cases h
    · cases ifs with
      | nil =>
        refine PTs.wk pts_nil fun σ H Q hq => ?_
        obtain ⟨θ, ρ, h, en, hr, a⟩ := hq
        exact a θ H Ext.refl hr
      | cons _ _ => cases h
  | opt a ia =>
    refine ⟨fun X E G hN ex h => (by cases h), fun X E G hN es h => (by cases es <;> cases h), fun X E G hN ex h => ?_, fun X E G hN ifs h => ?_, fun X E G hN tg ex h => (by cases h)⟩
    · cases ex with
      | none => cases h
      | some e => exact so_some (ia.e X E G hN e h).1
    · cases ifs with
      | nil => cases h
      | cons e es => cases es with
        | cons _ _ => cases h
        | nil =>
          have h1 := Bool.and_eq_true_iff.mp h
          exact pts_one ((ia.e X E G hN e h1.2).2 h1.1)
  | nil =>
    refine ⟨fun X E G hN ex h => (by cases h), fun X E G hN es h => ?_, fun X E G hN ex h => (by cases ex <;> cases h), fun X E G hN ifs h => (by cases ifs <;> cases h), fun X E G hN tg ex h => (by cases h)⟩
    cases es with
    | nil => exact ⟨trivial, fun _ => trivial⟩
    | cons _ _ => cases h
  | cons a b ia ib =>
    refine ⟨fun X E G hN ex h => (by cases h), fun X E G hN es h => ?_, fun X E G hN ex h => (by cases ex <;> cases h), fun X E G hN ifs h => (by cases ifs <;> cases h), fun X E G hN tg ex h => (by cases h)⟩
    cases es with
    | nil => cases h
    | cons e es =>
      have h1 := Bool.and_eq_true_iff.mp h
      have h2 := Bool.and_eq_true_iff.mp h1.2
      have z := ia.e X E G hN e h2.1
      have y := ib.a X E G hN es h2.2
      refine ⟨⟨z.1, y.1⟩, fun w => ?_⟩
      have w1 := Bool.and_eq_true_iff.mp (show (notIf e && es.all notIf) = true from w)
      exact ⟨z.2 w1.1, y.2 w1.2⟩
end
end Mp

set_option Elab.async false
set_option linter.all false
set_option autoImplicit false
set_option maxRecDepth 100000
set_option maxHeartbeats 4000000
namespace Mp
open PySem PySem.Spec L2
/-! ### names for the parts of a list -/
section
variable {prog : Program} {w : World} {A : Around} {E : Value → Shared → Prop} {s : Shared}
theorem drawL {it l : Addr} {vs : Array Value} (ne : l ≠ it) : ∀ (m j : Nat) (s : Shared) (Q : List Value → Shared → Prop), s.heap.IsListIter it l j → s.heap.IsList l vs → j + m ≤ vs.size →
    (∀ h', h'.IsListIter it l (j + m) → Heap.SameBut it s.heap h' → Q ((vs.toList.drop j).take m) { s with heap := h' }) → wpAny (model prog w) A (draw (.ref it) m) Q E s
  | 0, j, s, Q, a, _, _, k => by
    show wpAny _ _ (pure []) Q E s
    refine wpAny_pure ?_
    have z := k s.heap a (Heap.SameBut.refl ..)
    simpa using z
  | m + 1, j, s, Q, a, b, le, k => by
    have lt : j < vs.size := by omega
    show wpAny _ _ (pyNext (.ref it) >>= _) Q E s
    refine wpAny_bind (wpAny_pyNext_list_item a b (x := vs[j]) (by simp [lt]) fun g1 a1 s1 => ?_)
    refine wpAny_bind (wpAny_holding (drawL ne m (j + 1) _ _ a1 (b.extBut s1.extBut ne) (by omega) fun g2 a2 s2 => wpAny_pure ?_))
    have e : vs.toList.drop j = vs[j] :: vs.toList.drop (j + 1) := by
      rw [List.drop_eq_getElem_cons (by simpa using lt)]
      simp
    have z := k g2 (by rw [show j + (m + 1) = j + 1 + m by omega]; exact a2) (s1.trans s2)
    rw [e, List.take_succ_cons] at z
    exact z
theorem unpackL {l : Addr} {vs : Array Value} {Q : List Value → Shared → Prop} (hh : A.handled = none) (b : s.heap.IsList l vs)
    (k : ∀ h', Heap.ExtBut s.heap.objs.size s.heap h' → Q vs.toList { s with heap := h' }) : wpAny (model prog w) A (unpackItems (.ref l) vs.size none) Q E s := by
  have ne : l ≠ s.heap.objs.size := by
    obtain ⟨o, ho, _⟩ := b
    exact Nat.ne_of_lt (Heap.lt_size ho)
  unfold unpackItems
  refine wpAny_bind ?_
  unfold notIterableAtAll
  refine wpAny_bind (wpAny_specialOf b.typeIs slot_list_iter.lookup ?_)
  refine wpAny_pure ?_
  simp only [Bool.false_eq_true, if_false]
  refine wpAny_bind (wpAny_holding (wpAny_pyIter_list b ?_))
  refine wpAny_bind (wpAny_holding (drawL ne vs.size 0 _ _ ⟨_, Heap.get?_push_size _ rfl, rfl, rfl⟩ (b.push _) (by omega) fun g1 a1 s1 => ?_))
  have al : (vs.toList.drop 0).take vs.size = vs.toList := by
    rw [List.drop_zero]
    exact List.take_of_length_le (by simp)
  rw [al, if_neg (by simp)]
  have b1 : g1.IsList l vs := (b.push _).extBut s1.extBut ne
  refine wpAny_bind (wpAny_holding (wpAny_pyNext_list_end hh a1 b1 (by simp) fun g2 x2 => ?_))
  simp only [Option.isSome_none, Bool.false_eq_true, if_false]
  exact wpAny_pure (k g2 fun c o hc e => x2 c o hc (s1.extBut c o hc (Heap.get?_push_of_some _ e)))
end
section
variable {X : Cx} {pos : Pos}
def gLst (K : PySem.W.Frag) (n : Nat) (t : TGs) : TG := fun v σ H Q => ∃ a xs, v = .ref a ∧ SqL K H a xs ∧ xs.length = n ∧ t xs σ H Q
theorem pg_lst {es : List Expr} {k : Nat} {t : TGs} {n : Nat} (hc : X.calm = true) (h : PGs X es t) (hn : (assignEach es X.env).length = n) (hst : (assignEach es X.env).findIdx? (·.1) = none) : PG X (.Tuple es k pos) (gLst X.K n t) := by
  refine ⟨fun pins s σ H v u Q I r hw => ?_⟩
  obtain ⟨a, xs, rfl, hq, hl, hw⟩ := hw
  cases r
  obtain ⟨its, rv, p, hz⟩ := I.list hq
  rw [PyProof.Rows.assign_Tuple]
  refine wpAny_bind (wpAny_standAt ?_)
  unfold unpack
  have e : (assignEach es X.env).length = its.toArray.size := by
    rw [hn, ← hl, rv.length]
    simp
  rw [e, hst]
  refine wpAny_bind (wpAny_holding (unpackL (I.ok.hd hc) p.isList fun h' x => ?_))
  have I1 : Inv X pins σ H { s with heap := h' } := I.kept (t' := s.toks) fun b o q => x b o (Nat.ne_of_lt (Heap.lt_size q)) q
  exact h.run pins _ σ H xs _ Q I1 (by simpa using rv) hw
/-- a tuple or a list -/
def gSeq (K : PySem.W.Frag) (n : Nat) (t : TGs) : TG := fun v σ H Q => gTup K n t v σ H Q ∨ gLst K n t v σ H Q
theorem pg_seq {es : List Expr} {k : Nat} {t : TGs} {n : Nat} (hc : X.calm = true) (h : PGs X es t) (hn : (assignEach es X.env).length = n) (hst : (assignEach es X.env).findIdx? (·.1) = none) : PG X (.Tuple es k pos) (gSeq X.K n t) :=
  ⟨fun pins s σ H v u Q I r hw => hw.elim (fun z => (pg_tup hc h hn hst).run pins s σ H v u Q I r z) (fun z => (pg_lst hc h hn hst).run pins s σ H v u Q I r z)⟩
end
end Mp

set_option Elab.async false
set_option linter.all false
set_option autoImplicit false
set_option maxRecDepth 100000
set_option maxHeartbeats 4000000
namespace Mp
open PySem PySem.Spec L2
section
variable {prog : Program} {w : World} {A : Around} {E : Value → Shared → Prop} {s : Shared}
theorem shared_eq {s s' : Shared} {wr : List Addr} (m : Moved wr (fun a b => a = b) s s') : s' = { s with heap := s'.heap, toks := s'.toks } := by
  obtain ⟨_, e1, e2, e3, _⟩ := m
  cases s
  cases s'
  simp_all
/-- a tuple's iterator that stands at j -/
theorem walkT {A : Around} (hh : A.handled = none) (I t : Addr) (ne : t ≠ I) (vs : Array Value) (j : Nat) (hj : j ≤ vs.size) :
    WalksS prog w A I [I, t] [I] (fun a b => a = b) (vs.size - j) (fun i v => vs[j + i]? = some v) (fun i s => s.heap.IsTupleIter I t (j + i) ∧ s.heap.IsTuple t vs) where
  sub := fun b hb => by simp at hb; simp [hb]
  grefl := fun _ => rfl
  gtrans := fun _ _ _ => Eq.trans
  frame := fun _ _ _ _ st _ hk => ⟨st.1.at fun o e => hk I (by simp) o e, st.2.at fun o e => hk t (by simp) o e⟩
  item := fun i s Q E hi st hQ => by
    refine wpAny_pyNext_tuple_item st.1 st.2 (x := vs[j + i]) (by simp) fun h' a' s' => ?_
    refine hQ _ _ (by simp) ⟨?_, st.2.extBut s'.extBut ne⟩ ⟨fun b o hb e => s'.extBut b o (fun q => hb (by simp [q])) e, rfl, rfl, rfl, Nat.le_refl _⟩
    rw [← Nat.add_assoc]
    exact a'
  done := fun s Q E st hQ => wpAny_pyNext_tuple_end hh st.1 st.2 (by simp; omega) fun h' x' => hQ _ ⟨fun b o hb e => x' b o (fun q => hb (by simp [q])) e, rfl, rfl, rfl, Nat.le_refl _⟩
  self := fun _ _ _ _ st hQ => wpAny_pyIter_tupleiter st.1 hQ
theorem drawT {it t : Addr} {vs : Array Value} (ne : t ≠ it) : ∀ (m j : Nat) (s : Shared) (Q : List Value → Shared → Prop), s.heap.IsTupleIter it t j → s.heap.IsTuple t vs → j + m ≤ vs.size →
    (∀ h', h'.IsTupleIter it t (j + m) → Heap.SameBut it s.heap h' → Q ((vs.toList.drop j).take m) { s with heap := h' }) → wpAny (model prog w) A (draw (.ref it) m) Q E s
  | 0, j, s, Q, a, _, _, k => by
    show wpAny _ _ (pure []) Q E s
    refine wpAny_pure ?_
    have z := k s.heap a (Heap.SameBut.refl ..)
    simpa using z
  | m + 1, j, s, Q, a, b, le, k => by
    have lt : j < vs.size := by omega
    show wpAny _ _ (pyNext (.ref it) >>= _) Q E s
    refine wpAny_bind (wpAny_pyNext_tuple_item a b (x := vs[j]) (by simp [lt]) fun g1 a1 s1 => ?_)
    refine wpAny_bind (wpAny_holding (drawT ne m (j + 1) _ _ a1 (b.extBut s1.extBut ne) (by omega) fun g2 a2 s2 => wpAny_pure ?_))
    have e : vs.toList.drop j = vs[j] :: vs.toList.drop (j + 1) := by
      rw [List.drop_eq_getElem_cons (by simpa using lt)]
      simp
    have z := k g2 (by rw [show j + (m + 1) = j + 1 + m by omega]; exact a2) (s1.trans s2)
    rw [e, List.take_succ_cons] at z
    exact z
theorem items_eq {vs acc : Array Value} {j : Nat} (h : ItemsOf (fun i v => vs[j + i]? = some v) acc (vs.size - j)) (hj : j ≤ vs.size) : acc.toList = vs.toList.drop j := by
  apply List.ext_getElem?
  intro i
  rw [List.getElem?_drop]
  by_cases hi : i < acc.size
  · have e := h.2 i acc[i] (by simp [hi])
    have l := h.1
    simp only [Array.getElem?_toList]
    rw [e]
    simp [hi]
  · have l := h.1
    rw [List.getElem?_eq_none (by simp; omega), List.getElem?_eq_none (by simp; omega)]
/-- x, .., *ys, z, .. = a tuple -/
theorem unpackSt {t : Addr} {vs : Array Value} {n i : Nat} {Q : List Value → Shared → Prop} (hh : A.handled = none) (b : s.heap.IsTuple t vs) (hi : i < n) (hn : n ≤ vs.size + 1) (hz : vs.size ≤ sizeLine)
    (k : ∀ (h' : Heap) (tk : Nat) (L : Addr), (∀ c o, s.heap.get? c = some o → h'.get? c = some o) → s.heap.get? L = none → h'.get? L = some { cls := .type "list", data := .seq ((vs.toList.drop i).take (vs.size + 1 - n)).toArray } →
      Q (vs.toList.take i ++ [.ref L] ++ vs.toList.drop (i + (vs.size + 1 - n))) { s with heap := h', toks := tk }) : wpAny (model prog w) A (unpackItems (.ref t) n (some i)) Q E s := by
  have ne : t ≠ s.heap.objs.size := by
    obtain ⟨o, ho, _⟩ := b
    exact Nat.ne_of_lt (Heap.lt_size ho)
  unfold unpackItems
  refine wpAny_bind ?_
  unfold notIterableAtAll
  refine wpAny_bind (wpAny_specialOf b.typeIs F.slot_tuple_iter.lookup ?_)
  refine wpAny_pure ?_
  simp only [Bool.false_eq_true, if_false]
  refine wpAny_bind (wpAny_holding (wpAny_pyIter_tuple b ?_))
  refine wpAny_bind (wpAny_holding (drawT ne i 0 _ _ ⟨_, Heap.get?_push_size _ rfl, rfl, rfl⟩ (b.push _) (by omega) fun g1 a1 s1 => ?_))
  have l1 : ((vs.toList.drop 0).take i).length = i := by
    simp
    omega
  rw [if_neg (by rw [l1]; omega)]
  have b1 : g1.IsTuple t vs := (b.push _).extBut s1.extBut ne
  have big : s.heap.objs.size < g1.objs.size := by
    obtain ⟨o, ho, _⟩ := a1
    exact Heap.lt_size ho
  refine wpAny_bind (wpAny_holding (wpAny_collect_iter (T := "tuple_iterator") (n := vs.size - i) (.inr (.inr (.inr rfl))) (walkT (A := A.in1) hh _ t ne vs i (by omega)) (fun _ _ st => st.1.typeIs) ⟨by simpa using a1, b1⟩ (fun c hc => ?_) (by simp) (fun s' acc m it => ?_) (by omega)))
  · rcases (show c = s.heap.objs.size ∨ c = t by simpa using hc) with rfl | rfl
    · exact big
    · obtain ⟨o, ho, _⟩ := b1
      exact Heap.lt_size ho
  · have ea := items_eq it (by omega)
    have la : acc.toList.length = vs.size - i := by
      rw [ea]
      simp
    rw [if_neg (by rw [la]; omega)]
    have mid : acc.toList.length - (n - 1 - i) = vs.size + 1 - n := by
      rw [la]
      omega
    refine wpAny_bind (wpAny_newObj_type (hd := ?hd) ?_)
    case hd =>
      show (List.take _ _).toArray.size ≤ sizeLine
      simp
      have := la
      simp at this
      omega
    refine wpAny_pure ?_
    rw [mid, ea]
    have es := shared_eq m
    rw [es]
    have kp : ∀ c o, s.heap.get? c = some o → s'.heap.get? c = some o := fun c o e => m.heap c o (by simp; exact Nat.ne_of_lt (Heap.lt_size e)) (s1.extBut c o (Nat.ne_of_lt (Heap.lt_size e)) (Heap.get?_push_of_some _ e))
    have z := k (s'.heap.push { cls := .type "list", data := .seq ((vs.toList.drop i).take (vs.size + 1 - n)).toArray }) s'.toks s'.heap.objs.size (fun c o e => Heap.get?_push_of_some _ (kp c o e)) ?_ (Heap.get?_push_size _ rfl)
    · simpa [List.drop_drop] using z
    · cases q : s.heap.get? s'.heap.objs.size with
      | none => rfl
      | some o => exact absurd (Heap.lt_size (kp _ o q)) (Nat.lt_irrefl _)
end
section
variable {X : Cx} {pos : Pos}
/-- the i-th of n targets has the star -/
def gStar (K : PySem.W.Frag) (n i : Nat) (t : TGs) : TG := fun v σ H Q => ∃ a xs, v = .ref a ∧ SqT K H a xs ∧ i < n ∧ n ≤ xs.length + 1 ∧ ∀ L, H L = none → t (xs.take i ++ [.ref L] ++ xs.drop (i + (xs.length + 1 - n))) σ (upd H L (.lst ((xs.drop i).take (xs.length + 1 - n)))) Q
theorem Vals_take : ∀ {vs : List V} {us : List Value} (n : Nat), Vals vs us → Vals (vs.take n) (us.take n)
  | _, _, 0, _ => by simp; exact .nil
  | _, _, n + 1, .nil => .nil
  | _, _, n + 1, .cons r t => .cons r (Vals_take n t)
theorem pg_star {es : List Expr} {k : Nat} {t : TGs} {n i : Nat} (hc : X.calm = true) (h : PGs X es t) (hn : (assignEach es X.env).length = n) (hst : (assignEach es X.env).findIdx? (·.1) = some i) : PG X (.Tuple es k pos) (gStar X.K n i t) := by
  refine ⟨fun pins s σ H v u Q I r hw => ?_⟩
  obtain ⟨a, xs, rfl, hq, hi, hl, hw⟩ := hw
  cases r
  obtain ⟨its, rv, p, hz⟩ := I.tuple hq
  have le : its.length = xs.length := rv.length.symm
  rw [PyProof.Rows.assign_Tuple]
  refine wpAny_bind (wpAny_standAt ?_)
  unfold unpack
  rw [hn, hst]
  refine wpAny_bind (wpAny_holding (unpackSt (vs := its.toArray) (I.ok.hd hc) p hi (by simpa [le] using hl) (by simpa [le] using hz) fun h' tk L kp nL gL => ?_))
  have hL : H L = none := I.hok.gone nL
  have e0 : its.toArray.size = xs.length := by simpa using le
  have rm : Vals ((xs.drop i).take (xs.length + 1 - n)) ((its.toArray.toList.drop i).take (its.toArray.size + 1 - n)) := by
    rw [e0]
    exact Vals_take _ (by simpa using rv.drop i)
  have I1 : Inv X pins σ (upd H L (.lst ((xs.drop i).take (xs.length + 1 - n)))) { s with heap := h', toks := tk } := I.laidN kp nL hL ⟨by rw [List.length_take, List.length_drop]; omega, _, 0, rm, gL⟩
  refine h.run pins _ σ _ _ _ Q I1 ?_ (hw L hL)
  rw [e0]
  exact ((Vals_take i (by simpa using rv)).append (.cons (show RelV (.ref L) (.ref L) from rfl) .nil)).append (by simpa using rv.drop _)
end
end Mp

set_option Elab.async false
set_option linter.all false
set_option autoImplicit false
set_option maxRecDepth 100000
set_option maxHeartbeats 4000000
namespace Mp
open PySem PySem.Spec L2
/-! ### statements -/
inductive RS where
  | nx (ρ : Ev) (h : AH) | rt (d : D) (h : AH) | bk (ρ : Ev) (h : AH) | ct (ρ : Ev) (h : AH)
  | exc (c : Str) (fs : List (Str × D)) (h : AH) | bad
def R.toS {α : Type} (r : R α) (f : α → AH → RS) : RS := match r with
  | .ok a h => f a h
  | .exc c fs h => .exc c fs h
  | .bad => .bad
def RS.andThen (r : RS) (f : Ev → AH → RS) : RS := match r with
  | .nx ρ h => f ρ h
  | r => r
inductive S where
  | asg (i : Nat) (e : E)
  | par (i j : Nat) (es : E)
  | par3 (i j l : Nat) (es : E)
  | unp (is : List Nat) (star : Option Nat) (e : E)
  | mat (e : E) (cs : S) | cas (xs : List Str) (b rest : S) | casd (b : S)
  | set (o i e : E)
  | exp (e : E)
  | ret (e : E)
  | ife (t : E) (a b : S)
  | for_ (t : Tg) (it : E) (b : S)
  | pass | brk | cnt
  | nil | seq (a b : S)
def forLoop (f : D → Ev → AH → RS) (ck : AH → Bool) : List D → Ev → AH → RS
  | [], ρ, h => match ck h with
    | true => .nx ρ h
    | false => .bad
  | x :: xs, ρ, h => match ck h with
    | true => (match f x ρ h with
      | .nx ρ' h' => forLoop f ck xs ρ' h'
      | .ct ρ' h' => forLoop f ck xs ρ' h'
      | .bk ρ' h' => .nx ρ' h'
      | r => r)
    | false => .bad
/-- the parts of a tuple or list under several names; one of them may have the star -/
def unpD (is : List Nat) (star : Option Nat) (d : D) (ρ : Ev) (h : AH) : RS := match star with
  | none => (match sqD h d with
    | some xs => if xs.length = is.length then .nx (setMany ρ is xs) h else .bad
    | none => .bad)
  | some i => (match d with
    | .tup xs => if i < is.length ∧ is.length ≤ xs.length + 1 then .nx (setMany ρ is (xs.take i ++ [.lst ((xs.drop i).take (xs.length + 1 - is.length))] ++ xs.drop (i + (xs.length + 1 - is.length)))) h else .bad
    | _ => .bad)
mutual
def ex (M : Mdl) : S → Ev → AH → RS
  | .asg i e, ρ, h => (ev M e ρ h).toS fun d h1 => .nx (ρ.set i (some d)) h1
  | .par i j es, ρ, h => (evs M es ρ h).toS fun ds h1 => match ds with
    | [x, y] => .nx ((ρ.set i (some x)).set j (some y)) h1
    | _ => .bad
  | .unp is star e, ρ, h => (ev M e ρ h).toS fun d h1 => unpD is star d ρ h1
  | .par3 i j l es, ρ, h => (evs M es ρ h).toS fun ds h1 => match ds with
    | [x, y, z] => .nx (((ρ.set i (some x)).set j (some y)).set l (some z)) h1
    | _ => .bad
  | .set o i e, ρ, h => (ev M e ρ h).toS fun v h1 => (ev M o ρ h1).toS fun d h2 => (ev M i ρ h2).toS fun k h3 => (setD d k v h3).toS fun _ h4 => .nx ρ h4
  | .exp e, ρ, h => (ev M e ρ h).toS fun _ h1 => .nx ρ h1
  | .ret e, ρ, h => (ev M e ρ h).toS fun d h1 => .rt d h1
  | .ife t a b, ρ, h => ((ev M t ρ h).bind truR).toS fun c h1 => match c with
    | true => ex M a ρ h1
    | false => ex M b ρ h1
  | .for_ t it b, ρ, h => (evI M it ρ h).toS fun p h1 => forLoop (fun x ρ h => match t.bind x ρ with
    | some ρ' => ex M b ρ' h
    | none => .bad) p.2 p.1 ρ h1
  | .pass, ρ, h => .nx ρ h
  | .brk, ρ, h => .bk ρ h
  | .cnt, ρ, h => .ct ρ h
  | .nil, ρ, h => .nx ρ h
  | .seq a b, ρ, h => (ex M a ρ h).andThen fun ρ1 h1 => ex M b ρ1 h1
  | .mat e cs, ρ, h => (ev M e ρ h).toS fun d h1 => match d with
    | .str z => exC M cs z ρ h1
    | _ => .bad
  | .cas _ _ _, _, _ => .bad
  | .casd _, _, _ => .bad
/-- the cases of a match over a text -/
def exC (M : Mdl) : S → Str → Ev → AH → RS
  | .nil, _, ρ, h => .nx ρ h
  | .cas xs b rest, z, ρ, h => match decide (z ∈ xs) with
    | true => ex M b ρ h
    | false => exC M rest z ρ h
  | .casd b, _, ρ, h => ex M b ρ h
  | _, _, _, _ => .bad
end
def locB (sc : Scope) (x : Str) : Bool := match sc.names.lookup x with
  | some .local => true | some .cell => true
  | _ => false
def notComp : Expr → Bool
  | .ListComp .. => false | .SetComp .. => false | .DictComp .. => false
  | _ => true
/-- a value that is stored under a name: no comprehension, or one that we know -/
def asgOk : Expr → Bool
  | .SetComp .. => false | .DictComp .. => false
  | _ => true
def nmS (sc : Scope) (N : List Str) (i : Nat) : Expr → Bool
  | .Name x _ => decide (N[i]? = some x) && locB sc x
  | _ => false
def nmsS (sc : Scope) (N : List Str) : List Nat → List Expr → Bool
  | [], [] => true
  | i :: is, e :: es => nmS sc N i e && nmsS sc N is es
  | _, _ => false
def tgS (sc : Scope) (N : List Str) : Tg → Expr → Bool
  | .one i, e => nmS sc N i e
  | .many is, .Tuple es _ _ => nmsS sc N is es
  | _, _ => false
/-- a name of a pair that is stored at once -/
def pnm (sc : Scope) (N : List Str) (i : Nat) (x : Str) : Bool := decide (N[i]? = some x) && decide (sc.names.lookup x = some .local)
def parOk (sc : Scope) (vs : List Expr) : Bool := decide (sc.kind = .function) && (!vs.all (constantsAlone 8) && !vs.all (foldedForSure 8))
/-- names, the one at star with the star -/
def nmsU (sc : Scope) (N : List Str) : Option Nat → List Nat → List Expr → Bool
  | none, is, es => nmsS sc N is es
  | some 0, i :: is, .Starred e _ :: es => nmS sc N i e && nmsS sc N is es
  | some (k + 1), i :: is, e :: es => nmS sc N i e && nmsU sc N (some k) is es
  | _, _, _ => false
def cellN (sc : Scope) : Expr → Bool
  | .Name x _ => !(sc.names.lookup x == some .local)
  | _ => false
def noSwap (sc : Scope) (es : List Expr) : Expr → Bool
  | .Tuple vs _ _ => (decide (4 ≤ es.length) || (vs.all notStar && vs.all (foldedForSure 8))) || es.any (cellN sc)
  | _ => true
def patV (x : Str) : Pattern → Bool
  | .MatchValue (.Constant (.str y) _ _) _ => decide (x = y)
  | _ => false
def patsV : List Str → List Pattern → Bool
  | [], [] => true
  | x :: xs, p :: ps => patV x p && patsV xs ps
  | _, _ => false
def patOk : List Str → Pattern → Bool
  | [x], .MatchValue (.Constant (.str y) _ _) _ => decide (x = y)
  | xs, .MatchOr ps _ => patsV xs ps
  | _, _ => false
mutual
def chkS (M : Mdl) (N : List Str) : S → Scope → Stmt → Bool
  | .asg i e, sc, .Assign [.Name x _] ex _ => decide (N[i]? = some x) && (locB sc x && (asgOk ex && chkE M N e sc ex))
  | .par i j es, sc, .Assign [.Tuple [.Name x px, .Name y py] _ _] (.Tuple [a, b] _ _) _ => pnm sc N i x && (pnm sc N j y && (decide (i ≠ j) && ((py.line == px.line) && (parOk sc [a, b] && chkA M N es sc [a, b]))))
  | .par3 i j l es, sc, .Assign [.Tuple [.Name x px, .Name y py, .Name z pz] _ _] (.Tuple [a, b, c] _ _) _ => pnm sc N i x && (pnm sc N j y && (pnm sc N l z && (decide (i ≠ j ∧ i ≠ l ∧ j ≠ l) && (((py.line == px.line) && (pz.line == px.line)) && (parOk sc [a, b, c] && chkA M N es sc [a, b, c])))))
  | .unp is star e, sc, .Assign [.Tuple es _ _] ex _ => nmsU sc N star is es && (noSwap sc es ex && (notComp ex && chkE M N e sc ex))
  | .set o i e, sc, .Assign [.Subscript a b _] ex _ => notComp ex && (notSlice b && (chkE M N e sc ex && (chkE M N o sc a && chkE M N i sc b)))
  | .exp e, sc, .Expr ex _ => notComp ex && chkE M N e sc ex
  | .ret e, sc, .Return (some ex) _ => chkE M N e sc ex
  | .ife t a b, sc, .If c xs ys _ => notIf c && (chkE M N t sc c && (chkB M N a sc xs && chkB M N b sc ys))
  | .for_ t it b, sc, .For tg x body [] _ => chkT M N it sc (isTupE tg) x && (tgS sc N t tg && chkB M N b sc body)
  | .mat e cs, sc, .Match x cases _ => chkE M N e sc x && chkC M N cs sc cases
  | .pass, _, .Pass _ => true
  | .brk, _, .Break _ => true
  | .cnt, _, .Continue _ => true
  | _, _, _ => false
def chkB (M : Mdl) (N : List Str) : S → Scope → List Stmt → Bool
  | .nil, _, [] => true
  | .seq a b, sc, s :: ss => chkS M N a sc s && chkB M N b sc ss
  | _, _, _ => false
def chkC (M : Mdl) (N : List Str) : S → Scope → List MatchCase → Bool
  | .nil, _, [] => true
  | .cas xs b rest, sc, ⟨p, none, body⟩ :: cs => patOk xs p && (chkB M N b sc body && chkC M N rest sc cs)
  | .casd b, sc, [⟨.MatchAs none none _, none, body⟩] => chkB M N b sc body
  | _, _, _ => false
end
def AfterS (K : PySem.W.Frag) (θ : Th) (H : Hp) (E : XW) : RS → Ends → Prop
  | .nx ρ h, D => ∀ σ' θ' H', Ext θ H θ' H' → EnvRep K θ' H' σ' ρ → HRep K θ' H' h → D.nx σ' H'
  | .bk ρ h, D => ∀ σ' θ' H', Ext θ H θ' H' → EnvRep K θ' H' σ' ρ → HRep K θ' H' h → D.bk σ' H'
  | .ct ρ h, D => ∀ σ' θ' H', Ext θ H θ' H' → EnvRep K θ' H' σ' ρ → HRep K θ' H' h → D.ct σ' H'
  | .rt d h, D => ∀ v θ' H', Ext θ H θ' H' → HRep K θ' H' h → Rep K θ' H' d v → D.rt v H'
  | .exc c fs h, _ => ∀ vs θ' H', Ext θ H θ' H' → HRep K θ' H' h → Repf K θ' H' fs vs → E c vs H'
  | .bad, _ => False
def tS (K : PySem.W.Frag) (E : XW) (m : Ev → AH → RS) : TS := fun D σ H => ∃ θ ρ h, EnvRep K θ H σ ρ ∧ HRep K θ H h ∧ AfterS K θ H E (m ρ h) D
section
variable {X : Cx} {M : Mdl} {E : XW} {N : List Str} {sc : Scope}
theorem AfterS.ext {K : PySem.W.Frag} {θ θ1 : Th} {H H1 : Hp} {r : RS} {D : Ends} (a : AfterS K θ H E r D) (x : Ext θ H θ1 H1) : AfterS K θ1 H1 E r D := by
  cases r with
  | nx ρ h => exact fun σ' θ' H' y e hr => a σ' θ' H' (x.trans y) e hr
  | bk ρ h => exact fun σ' θ' H' y e hr => a σ' θ' H' (x.trans y) e hr
  | ct ρ h => exact fun σ' θ' H' y e hr => a σ' θ' H' (x.trans y) e hr
  | rt d h => exact fun v θ' H' y hr r => a v θ' H' (x.trans y) hr r
  | exc c fs h => exact fun vs θ' H' y hr r => a vs θ' H' (x.trans y) hr r
  | bad => exact a
theorem seqES {K : PySem.W.Frag} {σ : L2.St} {H : Hp} {θ : Th} {ρ : Ev} {h : AH} {m : Ev → AH → R D} {f : D → AH → RS} {Dn : Ends} {Q' : VK} (e : EnvRep K θ H σ ρ) (hr : HRep K θ H h) (a : AfterS K θ H E ((m ρ h).toS f) Dn)
    (k : ∀ d h1 v θ1 H1, m ρ h = .ok d h1 → Ext θ H θ1 H1 → EnvRep K θ1 H1 σ ρ → HRep K θ1 H1 h1 → Rep K θ1 H1 d v → AfterS K θ1 H1 E (f d h1) Dn → Q' v H1) : tM K E m σ H Q' := by
  refine ⟨θ, ρ, h, e, hr, ?_⟩
  cases q : m ρ h with
  | ok d h1 =>
    rw [q] at a
    exact fun v θ1 H1 x hr1 rp => k d h1 v θ1 H1 q x (e.mono x) hr1 rp (AfterS.ext a x)
  | exc c fs h1 => rw [q] at a; exact a
  | bad => rw [q] at a; exact a
theorem seqLS {K : PySem.W.Frag} {σ : L2.St} {H : Hp} {θ : Th} {ρ : Ev} {h : AH} {m : Ev → AH → R (List D)} {f : List D → AH → RS} {Dn : Ends} {Q' : List V → Hp → Prop} (e : EnvRep K θ H σ ρ) (hr : HRep K θ H h) (a : AfterS K θ H E ((m ρ h).toS f) Dn)
    (k : ∀ ds h1 vs θ1 H1, m ρ h = .ok ds h1 → Ext θ H θ1 H1 → EnvRep K θ1 H1 σ ρ → HRep K θ1 H1 h1 → Reps K θ1 H1 ds vs → AfterS K θ1 H1 E (f ds h1) Dn → Q' vs H1) : tML K E m σ H Q' := by
  refine ⟨θ, ρ, h, e, hr, ?_⟩
  cases q : m ρ h with
  | ok d h1 =>
    rw [q] at a
    exact fun v θ1 H1 x hr1 rp => k d h1 v θ1 H1 q x (e.mono x) hr1 rp (AfterS.ext a x)
  | exc c fs h1 => rw [q] at a; exact a
  | bad => rw [q] at a; exact a
theorem seqTS {K : PySem.W.Frag} {σ : L2.St} {H : Hp} {θ : Th} {ρ : Ev} {h : AH} {m : Ev → AH → R Bool} {f : Bool → AH → RS} {Dn : Ends} {Q' : Bool → Hp → Prop} (e : EnvRep K θ H σ ρ) (hr : HRep K θ H h) (a : AfterS K θ H E ((m ρ h).toS f) Dn)
    (k : ∀ b h1 θ1 H1, m ρ h = .ok b h1 → Ext θ H θ1 H1 → EnvRep K θ1 H1 σ ρ → HRep K θ1 H1 h1 → AfterS K θ1 H1 E (f b h1) Dn → Q' b H1) : tMT K E m σ H Q' := by
  refine ⟨θ, ρ, h, e, hr, ?_⟩
  cases q : m ρ h with
  | ok d h1 =>
    rw [q] at a
    exact fun θ1 H1 x hr1 => k d h1 θ1 H1 q x (e.mono x) hr1 (AfterS.ext a x)
  | exc c fs h1 => rw [q] at a; exact a
  | bad => rw [q] at a; exact a
theorem PS.wk {s : Stmt} {t t' : TS} (h : PS X s t) (w : ∀ D σ H, t' D σ H → t D σ H) : PS X s t' := ⟨fun pins s σ H D I hq => h.run pins s σ H D I (w D σ H hq)⟩
theorem PSs.wk {s : List Stmt} {t t' : TS} (h : PSs X s t) (w : ∀ D σ H, t' D σ H → t D σ H) : PSs X s t' := ⟨fun pins s σ H D I hq => h.run pins s σ H D I (w D σ H hq)⟩
theorem tAsg_of {m : Ev → AH → R D} {i : Nat} {Dn : Ends} {σ : L2.St} {H : Hp} (hq : tS X.K E (fun ρ h => (m ρ h).toS fun d h1 => .nx (ρ.set i (some d)) h1) Dn σ H) : tAsg (tM X.K E m) (gName i) Dn σ H := by
  obtain ⟨θ, ρ, h, en, hr, a⟩ := hq
  exact seqES en hr a fun d h1 v θ1 H1 e1 x1 en1 hr1 r1 a1 => a1 _ θ1 H1 Ext.refl (en1.set r1 i) hr1
/-- a def's body: its cells are its own -/
structure GoodS (X : Cx) (M : Mdl) (E : XW) : Prop extends Good X M E where
  fnT : ∀ x, X.fn x = true
theorem loc_of {x : Str} (h : locB X.env.scope x = true) : Loc X.env.scope x := by
  unfold locB at h
  split at h
  · exact .inl (by assumption)
  · exact .inr (by assumption)
  · cases h
theorem swaps_ns {e : Expr} (h : notComp e = true) (t : Option Expr) (l : Nat) (env : Env) : swapsWith e t l env = pure false := by
  cases e <;> first | rfl | cases h
theorem ss_asg (G : GoodS X M E) (hN : X.N = N) {i : Nat} {c : Mp.E} {x : Str} {e : Expr} {px pos : Pos} (h1 : X.N[i]? = some x) (h2 : locB X.env.scope x = true) (h3 : asgOk e = true) (h4 : chkE M N c X.env.scope e = true) :
    PS X (.Assign [.Name x px] e pos) (tS X.K E fun ρ h => (ev M c ρ h).toS fun d h1 => .nx (ρ.set i (some d)) h1) := by
  have pe := ((sound M N c).e X E G.toGood hN e h4).1
  have plain : swapsWith e (some (.Name x px)) pos.line X.env = pure false → PS X (.Assign [.Name x px] e pos) (tS X.K E fun ρ h => (ev M c ρ h).toS fun d h1 => .nx (ρ.set i (some d)) h1) := fun hs =>
    PS.wk (ps_set (i := i) G.nd h1 (loc_of h2) pe hs (.inl (G.fnT x))) fun D σ H hq => tAsg_of hq
  cases hc : notComp e with
  | true => exact plain (swaps_ns hc _ _ _)
  | false =>
    cases e with
    | ListComp el gs scope p =>
      cases hb : (X.env.blockKind == .function && X.env.kindOf x == some .local && px.line == p.line && !(scope.names.any fun (n, k) => n == x && (k == .local || k == .cell))) with
      | false =>
        refine plain ?_
        show (pure _ : Sem Bool) = pure false
        rw [← hb]; rfl
      | true =>
        have hsw : swapsWith (.ListComp el gs scope p) (some (.Name x px)) pos.line X.env = pure true := by
          show (pure _ : Sem Bool) = pure true
          rw [← hb]; rfl
        have hl : X.env.scope.names.lookup x = some .local := by
          have z := (Bool.and_eq_true_iff.mp (Bool.and_eq_true_iff.mp (Bool.and_eq_true_iff.mp hb).1).1).2
          have z2 : X.env.kindOf x = some .local := by simpa using z
          exact z2
        have fin : PS X (.Assign [.Name x px] (.ListComp el gs scope p) pos) (tAsg (tM X.K E (ev M c)) (gName i)) := by
          cases c with
          | lc m t it c el' => cases gs with
            | nil => cases h4
            | cons g0 gs => cases gs with
              | cons _ _ =>
                exfalso
                unfold chkE at h4
                split at h4 <;> simp_all
              | nil =>
                obtain ⟨tg, xx, ifs, as⟩ := g0
                by_cases ha : as = 0
                · subst ha
                  have h1' := Bool.and_eq_true_iff.mp h4
                  have h2' := Bool.and_eq_true_iff.mp h1'.2
                  have h3' := Bool.and_eq_true_iff.mp h2'.2
                  have h4' := Bool.and_eq_true_iff.mp h3'.2
                  have z := (sound M N it).t X E G.toGood hN tg xx h1'.1
                  exact (se_lc G.toGood hN z.1 z.2 h2'.1 h3'.1 (fun s H C cl fp => (sound M N c).i _ E0 (G.toGood.blk s H scope _ fp) hN ifs h4'.1) (fun s H C cl fp => ((sound M N el').e _ E0 (G.toGood.blk s H scope _ fp) hN el h4'.2).1)).2 i x px pos h1 hl hsw
                · exfalso
                  unfold chkE at h4
                  split at h4 <;> simp_all
          | _ => cases h4
        exact PS.wk fin fun D σ H hq => tAsg_of hq
    | SetComp _ _ _ _ => cases h3
    | DictComp _ _ _ _ _ => cases h3
    | _ => cases hc
/-! ### pairs -/
theorem ix_inj {x : Str} : ∀ {N : List Str} {i j : Nat}, N.Nodup → N[i]? = some x → N[j]? = some x → i = j
  | [], i, j, _, h, _ => by simp at h
  | y :: N, 0, 0, _, _, _ => rfl
  | y :: N, 0, j + 1, nd, h1, h2 => by
    have e : y = x := by simpa using h1
    have m : x ∈ N := List.mem_of_getElem? (show N[j]? = some x by simpa using h2)
    rw [← e] at m
    exact absurd m (List.nodup_cons.mp nd).1
  | y :: N, i + 1, 0, nd, h1, h2 => by
    have e : y = x := by simpa using h2
    have m : x ∈ N := List.mem_of_getElem? (show N[i]? = some x by simpa using h1)
    rw [← e] at m
    exact absurd m (List.nodup_cons.mp nd).1
  | y :: N, i + 1, j + 1, nd, h1, h2 => by
    have := ix_inj (List.nodup_cons.mp nd).2 (show N[i]? = some x by simpa using h1) (show N[j]? = some x by simpa using h2)
    omega
theorem ne_of_ix {N : List Str} (nd : N.Nodup) {i j : Nat} {x y : Str} (h1 : N[i]? = some x) (h2 : N[j]? = some y) (h : i ≠ j) : x ≠ y := by
  rintro rfl
  exact h (ix_inj nd h1 h2)
theorem st_any (f : Expr → Bool) (hf : ∀ e, notStar e = true → f e = false) : ∀ es : List Expr, es.all notStar = true → es.any f = false
  | [], _ => rfl
  | e :: es, h => by
    have h1 := Bool.and_eq_true_iff.mp (show (notStar e && es.all notStar) = true from h)
    rw [List.any_cons, hf e h1.1, st_any f hf es h1.2]
    rfl
theorem bk_of {env : Env} (hk : env.scope.kind = .function) : env.blockKind = .function := by
  unfold Env.blockKind
  rw [hk]
  rfl
theorem sw_par {env : Env} {x y : Str} {px py pt pt2 : Pos} {kt k2 : Nat} {a b : Expr} (hk : env.scope.kind = .function) (hx : env.scope.names.lookup x = some .local) (hy : env.scope.names.lookup y = some .local) (hxy : x ≠ y) (hl : (py.line == px.line) = true)
    (hs : [a, b].all notStar = true) (c1 : [a, b].all (constantsAlone 8) = false) (c2 : [a, b].all (foldedForSure 8) = false) : swappedStores [.Tuple [.Name x px, .Name y py] kt pt] (.Tuple [a, b] k2 pt2) env = pure (some [x, y]) := by
  have e1 : env.kindOf x = some .local := hx
  have e2 : env.kindOf y = some .local := hy
  have ed : [x, y].eraseDups.length = 2 := by
    have q : (y == x) = false := by simpa using fun h => hxy h.symm
    simp [List.eraseDups_cons, q, hxy.symm]
  unfold swappedStores
  simp only [bk_of hk, e1, e2, hl, c1, c2, ed, List.filterMap_cons, List.filterMap_nil, List.head?_cons, Option.map_some, Option.getD_some, Expr.pos, beq_self_eq_true, Bool.true_and, if_true, List.length_cons, List.length_nil]
  rw [if_neg (by decide), if_neg (by rw [st_any _ (fun e h => by cases e <;> first | exact absurd h Bool.false_ne_true | rfl) _ hs]; exact Bool.false_ne_true), if_neg (by decide), if_neg Bool.false_ne_true, if_neg Bool.false_ne_true]
theorem sw_par3 {env : Env} {x y z : Str} {px py pz pt pt2 : Pos} {kt k2 : Nat} {a b c : Expr} (hk : env.scope.kind = .function) (hx : env.scope.names.lookup x = some .local) (hy : env.scope.names.lookup y = some .local) (hz : env.scope.names.lookup z = some .local) (hxy : x ≠ y) (hxz : x ≠ z) (hyz : y ≠ z) (hl : (py.line == px.line) = true) (hl2 : (pz.line == px.line) = true)
    (hs : [a, b, c].all notStar = true) (c1 : [a, b, c].all (constantsAlone 8) = false) (c2 : [a, b, c].all (foldedForSure 8) = false) : swappedStores [.Tuple [.Name x px, .Name y py, .Name z pz] kt pt] (.Tuple [a, b, c] k2 pt2) env = pure (some [x, y, z]) := by
  have e1 : env.kindOf x = some .local := hx
  have e2 : env.kindOf y = some .local := hy
  have e3 : env.kindOf z = some .local := hz
  have ed : [x, y, z].eraseDups.length = 3 := by
    have q : (y == x) = false := by simpa using fun h => hxy h.symm
    have q2 : (z == x) = false := by simpa using fun h => hxz h.symm
    have q3 : (z == y) = false := by simpa using fun h => hyz h.symm
    simp [List.eraseDups_cons, q, q2, q3, hxy.symm, hxz.symm, hyz.symm]
  unfold swappedStores
  simp only [bk_of hk, e1, e2, e3, hl, hl2, c1, c2, ed, List.filterMap_cons, List.filterMap_nil, List.head?_cons, Option.map_some, Option.getD_some, Expr.pos, beq_self_eq_true, Bool.true_and, if_true, List.length_cons, List.length_nil]
  rw [if_neg (by decide), if_neg (by rw [st_any _ (fun e h => by cases e <;> first | exact absurd h Bool.false_ne_true | rfl) _ hs]; exact Bool.false_ne_true), if_neg (by decide), if_neg Bool.false_ne_true, if_neg Bool.false_ne_true]
theorem star_all : ∀ {c : Mp.E} {es : List Expr}, chkA M N c sc es = true → es.all notStar = true
  | .nil, [], _ => rfl
  | .cons a b, e :: es, h => by
    have h' : (notStar e && (chkE M N a sc e && chkA M N b sc es)) = true := h
    have h1 := Bool.and_eq_true_iff.mp h'
    show (notStar e && es.all notStar) = true
    rw [h1.1, star_all (Bool.and_eq_true_iff.mp h1.2).2]
    rfl
theorem ss_par (G : GoodS X M E) (hN : X.N = N) {i j : Nat} {x y : Str} {a b : Expr} {px py pt pt2 pos : Pos} {kt k2 : Nat} {c : Mp.E} (hx : pnm X.env.scope N i x = true) (hy : pnm X.env.scope N j y = true) (hij : i ≠ j) (hl : (py.line == px.line) = true) (hp : parOk X.env.scope [a, b] = true) (hc : chkA M N c X.env.scope [a, b] = true) (ha : PA X [a, b] (tML X.K E (evs M c))) :
    PS X (.Assign [.Tuple [.Name x px, .Name y py] kt pt] (.Tuple [a, b] k2 pt2) pos) (tS X.K E fun ρ h => (evs M c ρ h).toS fun ds h1 => match ds with
      | [x, y] => .nx ((ρ.set i (some x)).set j (some y)) h1
      | _ => .bad) := by
  have x1 := Bool.and_eq_true_iff.mp hx
  have y1 := Bool.and_eq_true_iff.mp hy
  have p1 := Bool.and_eq_true_iff.mp hp
  have p2 := Bool.and_eq_true_iff.mp p1.2
  have ix : X.N[i]? = some x := by rw [hN]; exact of_decide_eq_true x1.1
  have iy : X.N[j]? = some y := by rw [hN]; exact of_decide_eq_true y1.1
  refine PS.wk (ps_par G.calm G.nd ix iy hij (of_decide_eq_true x1.2) (of_decide_eq_true y1.2) ha (sw_par (of_decide_eq_true p1.1) (of_decide_eq_true x1.2) (of_decide_eq_true y1.2) (ne_of_ix G.nd ix iy hij) hl (star_all hc) (by exact (Bool.not_eq_true' _).mp p2.1) (by exact (Bool.not_eq_true' _).mp p2.2))) fun D σ H hq => ?_
  obtain ⟨θ, ρ, h, en, hr, a0⟩ := hq
  refine seqLS en hr a0 fun ds h1 vs θ1 H1 e1 x1 en1 hr1 r1 a1 => ?_
  cases r1 with
  | nil => exact False.elim a1
  | cons r r' => cases r' with
    | nil => exact False.elim a1
    | cons q q' => cases q' with
      | cons _ _ => exact False.elim a1
      | nil => exact ⟨_, _, rfl, a1 _ θ1 H1 Ext.refl ((en1.set r i).set q j) hr1⟩
theorem ss_par3 (G : GoodS X M E) (hN : X.N = N) {i j l : Nat} {x y z : Str} {a b d : Expr} {px py pz pt pt2 pos : Pos} {kt k2 : Nat} {c : Mp.E} (hx : pnm X.env.scope N i x = true) (hy : pnm X.env.scope N j y = true) (hz : pnm X.env.scope N l z = true) (hij : i ≠ j ∧ i ≠ l ∧ j ≠ l) (hl : (py.line == px.line) = true) (hl2 : (pz.line == px.line) = true) (hp : parOk X.env.scope [a, b, d] = true) (hc : chkA M N c X.env.scope [a, b, d] = true) (ha : PA X [a, b, d] (tML X.K E (evs M c))) :
    PS X (.Assign [.Tuple [.Name x px, .Name y py, .Name z pz] kt pt] (.Tuple [a, b, d] k2 pt2) pos) (tS X.K E fun ρ h => (evs M c ρ h).toS fun ds h1 => match ds with
      | [x, y, z] => .nx (((ρ.set i (some x)).set j (some y)).set l (some z)) h1
      | _ => .bad) := by
  have x1 := Bool.and_eq_true_iff.mp hx
  have y1 := Bool.and_eq_true_iff.mp hy
  have z1 := Bool.and_eq_true_iff.mp hz
  have p1 := Bool.and_eq_true_iff.mp hp
  have p2 := Bool.and_eq_true_iff.mp p1.2
  have ix : X.N[i]? = some x := by rw [hN]; exact of_decide_eq_true x1.1
  have iy : X.N[j]? = some y := by rw [hN]; exact of_decide_eq_true y1.1
  have iz : X.N[l]? = some z := by rw [hN]; exact of_decide_eq_true z1.1
  refine PS.wk (ps_par3 G.calm G.nd ix iy iz hij.1 hij.2.1 hij.2.2 (of_decide_eq_true x1.2) (of_decide_eq_true y1.2) (of_decide_eq_true z1.2) ha (sw_par3 (of_decide_eq_true p1.1) (of_decide_eq_true x1.2) (of_decide_eq_true y1.2) (of_decide_eq_true z1.2) (ne_of_ix G.nd ix iy hij.1) (ne_of_ix G.nd ix iz hij.2.1) (ne_of_ix G.nd iy iz hij.2.2) hl hl2 (star_all hc) (by exact (Bool.not_eq_true' _).mp p2.1) (by exact (Bool.not_eq_true' _).mp p2.2))) fun D σ H hq => ?_
  obtain ⟨θ, ρ, h, en, hr, a0⟩ := hq
  refine seqLS en hr a0 fun ds h1 vs θ1 H1 e1 x1 en1 hr1 r1 a1 => ?_
  cases r1 with
  | nil => exact False.elim a1
  | cons r r' => cases r' with
    | nil => exact False.elim a1
    | cons q q' => cases q' with
      | nil => exact False.elim a1
      | cons w w' => cases w' with
        | cons _ _ => exact False.elim a1
        | nil => exact ⟨_, _, _, rfl, a1 _ θ1 H1 Ext.refl (((en1.set r i).set q j).set w l) hr1⟩
/-! ### match -/
theorem pat_val {x : Str} {p : Pattern} (hp : patV x p = true) {pins : List (Addr × Obj)} {σ : L2.St} {H : Hp} {s : Shared} {z : Str} {u : Value} {Q : Option (List (Str × Value)) → Shared → Prop} (I : Inv X pins σ H s) (ru : RelV (.str z) u)
    (h : ∀ s', Inv X pins σ H s' → Q (if decide (z = x) = true then some [] else none) s') : wpAny (model X.prog X.w) X.A (matchPattern p X.env u) Q X.xe s := by
  cases p with
  | MatchValue v pos => cases v with
    | Constant c k cp => cases c with
      | str y =>
        obtain rfl : x = y := of_decide_eq_true hp
        refine wpAny_matchPattern_Value ?_
        refine thn ((pe_str (X := X)).run pins s σ H (fun w H1 => w = .str x ∧ H1 = H) I ⟨rfl, rfl⟩) fun w s1 q => ?_
        obtain ⟨w', H1, I1, r1, rfl, rfl⟩ := q
        refine thn (op_eq pins s1 σ H1 (.str z) (.str x) u w (fun c H2 => c = .bl (decide (z = x)) ∧ H2 = H1) I1 ru r1 ⟨rfl, ?_, rfl⟩) fun c s2 q => ?_
        · have e : decide (V.str z = V.str x) = decide (z = x) := decide_eq_decide.mpr ⟨fun q => by cases q; rfl, fun q => by rw [q]⟩
          rw [e]
        · obtain ⟨c', H2, I2, r2, rfl, rfl⟩ := q
          cases r2
          refine wpAny_truthy_bool ?_
          have z2 := h s2 I2
          cases e : decide (z = x) with
          | true => rw [e] at z2; exact z2
          | false => rw [e] at z2; exact z2
      | _ => cases hp
    | _ => cases hp
  | _ => cases hp
theorem pats_val : ∀ {xs : List Str} {ps : List Pattern}, patsV xs ps = true → ∀ {pins : List (Addr × Obj)} {σ : L2.St} {H : Hp} {s : Shared} {z : Str} {u : Value} {Q : Option (List (Str × Value)) → Shared → Prop}, Inv X pins σ H s → RelV (.str z) u →
    (∀ s', Inv X pins σ H s' → Q (if decide (z ∈ xs) = true then some [] else none) s') → wpAny (model X.prog X.w) X.A (matchFirst ps X.env u) Q X.xe s
  | [], [], _, pins, σ, H, s, z, u, Q, I, ru, h => wpAny_matchFirst_nil (h s I)
  | [], _ :: _, hp, _, _, _, _, _, _, _, _, _, _ => by cases hp
  | _ :: _, [], hp, _, _, _, _, _, _, _, _, _, _ => by cases hp
  | x :: xs, p :: ps, hp, pins, σ, H, s, z, u, Q, I, ru, h => by
    have h1 := Bool.and_eq_true_iff.mp (show (patV x p && patsV xs ps) = true from hp)
    refine wpAny_matchFirst_cons (pat_val h1.1 I ru fun s' I' => ?_)
    by_cases e : z = x
    · have z2 := h s' I'
      rw [decide_eq_true (show z ∈ x :: xs by rw [e]; exact List.mem_cons_self ..)] at z2
      rw [decide_eq_true e]
      exact z2
    · rw [decide_eq_false e]
      refine pats_val h1.2 I' ru fun s2 I2 => ?_
      have z2 := h s2 I2
      have e2 : decide (z ∈ x :: xs) = decide (z ∈ xs) := decide_eq_decide.mpr ⟨fun q => (List.mem_cons.mp q).resolve_left e, fun q => List.mem_cons_of_mem _ q⟩
      rw [e2] at z2
      exact z2
theorem names_nil {xs : List Str} {ps : List Pattern} (h : patsV xs ps = true) : namesOfAll (ps.take 1) = [] := by
  cases ps with
  | nil => rfl
  | cons p ps => cases xs with
    | nil => cases h
    | cons x xs =>
      have h1 := Bool.and_eq_true_iff.mp (show (patV x p && patsV xs ps) = true from h)
      cases p with
      | MatchValue v pos => rfl
      | _ => cases h1.1
theorem pat_ok {xs : List Str} {p : Pattern} (hp : patOk xs p = true) {pins : List (Addr × Obj)} {σ : L2.St} {H : Hp} {s : Shared} {z : Str} {u : Value} {Q : Option (List (Str × Value)) → Shared → Prop} (I : Inv X pins σ H s) (ru : RelV (.str z) u)
    (h : ∀ s', Inv X pins σ H s' → Q (if decide (z ∈ xs) = true then some [] else none) s') : wpAny (model X.prog X.w) X.A (matchPattern p X.env u) Q X.xe s := by
  cases p with
  | MatchOr ps pos =>
    have hp : patsV xs ps = true := by
      cases xs with
      | nil => exact hp
      | cons x xs => cases xs <;> exact hp
    refine wpAny_matchPattern_Or (pats_val hp I ru fun s' I' => ?_)
    have z2 := h s' I'
    cases e : decide (z ∈ xs) with
    | true =>
      rw [e] at z2
      show Q (some ((namesOfAll (ps.take 1)).filterMap _)) s'
      rw [names_nil hp]
      exact z2
    | false => rw [e] at z2; exact z2
  | MatchValue v pos =>
    cases xs with
    | nil => cases v <;> cases hp
    | cons x xs => cases xs with
      | cons _ _ => cases v <;> cases hp
      | nil =>
        refine pat_val (x := x) (by cases v with | Constant c k q => (cases c <;> first | exact hp | cases hp) | _ => cases hp) I ru fun s' I' => ?_
        have z2 := h s' I'
        have e2 : decide (z ∈ [x]) = decide (z = x) := decide_eq_decide.mpr (by simp)
        rw [e2] at z2
        exact z2
  | _ => cases xs with
    | nil => cases hp
    | cons x xs => cases xs <;> cases hp
/-- the cases of a match -/
def PC (X : Cx) (cs : List MatchCase) (m : Str → Ev → AH → RS) (E : XW) : Prop := ∀ (pins : List (Addr × Obj)) (s : Shared) (σ : L2.St) (H : Hp) (z : Str) (u : Value) (first : Bool) (D : Ends), Inv X pins σ H s → RelV (.str z) u → tS X.K E (m z) D σ H →
  wpAny (model X.prog X.w) X.A (matchCases cs X.env u first) (SP X pins D) X.xe s
theorem pc_nil : PC X [] (fun _ ρ h => .nx ρ h) E := fun pins s σ H z u first D I ru hq => by
  obtain ⟨θ, ρ, h, en, hr, a⟩ := hq
  exact wpAny_matchCases_nil ⟨σ, H, I, a σ θ H Ext.refl en hr⟩
theorem pc_cas {xs : List Str} {p : Pattern} {body : List Stmt} {cs : List MatchCase} {mb : Ev → AH → RS} {mr : Str → Ev → AH → RS} (hp : patOk xs p = true) (hb : PSs X body (tS X.K E mb)) (hc : PC X cs mr E) :
    PC X (⟨p, none, body⟩ :: cs) (fun z ρ h => match decide (z ∈ xs) with
      | true => mb ρ h
      | false => mr z ρ h) E := fun pins s σ H z u first D I ru hq => by
  obtain ⟨θ, ρ, h, en, hr, a⟩ := hq
  refine wpAny_matchCases_cons (pat_ok hp I ru fun s' I' => ?_)
  cases e : decide (z ∈ xs) with
  | true =>
    simp only [e] at a
    exact wpAny_assignInOrder_none (hb.run pins s' σ H D I' ⟨θ, ρ, h, en, hr, a⟩)
  | false =>
    simp only [e] at a
    exact hc pins s' σ H z u false D I' ru ⟨θ, ρ, h, en, hr, a⟩
theorem pc_dflt {q : Pos} {body : List Stmt} {mb : Ev → AH → RS} (hb : PSs X body (tS X.K E mb)) : PC X [⟨.MatchAs none none q, none, body⟩] (fun _ ρ h => mb ρ h) E := fun pins s σ H z u first D I ru hq => by
  refine wpAny_matchCases_cons (wpAny_matchPattern_Capture ?_)
  exact wpAny_assignInOrder_none (hb.run pins s σ H D I hq)
theorem ss_mat {x : Expr} {cs : List MatchCase} {pos : Pos} {mi : Ev → AH → R D} {mc : Str → Ev → AH → RS} (he : PE X x (tM X.K E mi)) (hc : PC X cs mc E) : PS X (.Match x cs pos) (tS X.K E fun ρ h => (mi ρ h).toS fun d h1 => match d with
      | .str z => mc z ρ h1
      | _ => .bad) := by
  refine ⟨fun pins s σ H D I hq => ?_⟩
  refine wpAny_Match (thn (he.run pins s σ H (fun v H1 => ∃ z, v = .str z ∧ tS X.K E (mc z) D σ H1) I ?_) fun v s1 q => ?_)
  · obtain ⟨θ, ρ, h, en, hr, a⟩ := hq
    refine seqES en hr a fun d h1 v θ1 H1 e1 x1 en1 hr1 r1 a1 => ?_
    cases r1 with
    | str z => exact ⟨z, rfl, θ1, ρ, h1, en1, hr1, a1⟩
    | _ => exact False.elim a1
  · obtain ⟨v', H1, I1, r1, z, rfl, t⟩ := q
    exact hc pins s1 σ H1 z v true D I1 r1 t
/-! ### loops -/
theorem nmS_of (G : GoodS X M E) (hN : X.N = N) {i : Nat} {tg : Expr} (h : nmS X.env.scope N i tg = true) : PG X tg (gName i) ∧ ∃ x p, tg = .Name x p := by
  cases tg with
  | Name x pos =>
    have h1 := Bool.and_eq_true_iff.mp h
    exact ⟨pg_name G.nd (by rw [hN]; exact of_decide_eq_true h1.1) (loc_of h1.2) (.inl (G.fnT x)), x, pos, rfl⟩
  | _ => cases h
theorem nmsS_of (G : GoodS X M E) (hN : X.N = N) : ∀ {is : List Nat} {es : List Expr}, nmsS X.env.scope N is es = true → PGs X es (gNames is) ∧ (assignEach es X.env).length = is.length ∧ (assignEach es X.env).findIdx? (·.1) = none
  | [], [], _ => ⟨pgs_nil, rfl, rfl⟩
  | [], _ :: _, h => by cases h
  | _ :: _, [], h => by cases h
  | i :: is, e :: es, h => by
    have h1 := Bool.and_eq_true_iff.mp (show (nmS X.env.scope N i e && nmsS X.env.scope N is es) = true from h)
    obtain ⟨p, x, pos, rfl⟩ := nmS_of G hN h1.1
    obtain ⟨q1, q2, q3⟩ := nmsS_of G hN h1.2
    have e0 : assignEach (.Name x pos :: es) X.env = (false, assign (.Name x pos) X.env) :: assignEach es X.env := rfl
    refine ⟨pgs_cons p q1 rfl, ?_, ?_⟩
    · rw [e0, List.length_cons, List.length_cons, q2]
    · rw [e0, List.findIdx?_cons, q3]
      rfl
theorem tgS_of (G : GoodS X M E) (hN : X.N = N) {t : Tg} {tg : Expr} (h : tgS X.env.scope N t tg = true) : PG X tg (gT X.K t) := by
  cases t with
  | one i => exact (nmS_of G hN h).1
  | many is =>
    cases tg with
    | Tuple es k pos =>
      obtain ⟨q1, q2, q3⟩ := nmsS_of G hN (show nmsS X.env.scope N is es = true from h)
      exact pg_tup G.calm q1 q2 q3
    | _ => cases h
/-! ### parts under several names -/
theorem pgs_star {x : Str} {p q : Pos} {es : List Expr} {t : TG} {u : TGs} (h1 : PG X (.Name x p) t) (h2 : PGs X es u) : PGs X (.Starred (.Name x p) q :: es) (gCons t u) := by
  refine ⟨fun pins s σ H vs us Q I r h => ?_⟩
  obtain ⟨v, vr, rfl, h⟩ := h
  cases r with
  | cons r rr =>
    show wpAny _ _ (assignInOrder (assign (.Name x p) X.env :: (assignEach es X.env).map (·.2)) _) _ _ s
    exact PyProof.Rows.assignInOrder_cons (thn (h1.run pins s σ H _ _ _ I r h) fun _ s1 ⟨σ1, H1, I1, q1⟩ => h2.run pins s1 σ1 H1 _ _ Q I1 rr q1)
theorem nmsU_of (G : GoodS X M E) (hN : X.N = N) : ∀ {k : Nat} {is : List Nat} {es : List Expr}, nmsU X.env.scope N (some k) is es = true → PGs X es (gNames is) ∧ (assignEach es X.env).length = is.length ∧ (assignEach es X.env).findIdx? (·.1) = some k
  | 0, i :: is, e :: es, h => by
    cases e with
    | Starred e q =>
      have h1 := Bool.and_eq_true_iff.mp (show (nmS X.env.scope N i e && nmsS X.env.scope N is es) = true from h)
      obtain ⟨p, x, pos, rfl⟩ := nmS_of G hN h1.1
      obtain ⟨q1, q2, q3⟩ := nmsS_of G hN h1.2
      have e0 : assignEach (.Starred (.Name x pos) q :: es) X.env = (true, assign (.Name x pos) X.env) :: assignEach es X.env := rfl
      refine ⟨pgs_star p q1, ?_, ?_⟩
      · rw [e0, List.length_cons, List.length_cons, q2]
      · rw [e0, List.findIdx?_cons]
        rfl
    | _ => cases h
  | 0, [], _, h => by cases h
  | 0, _ :: _, [], h => by cases h
  | k + 1, [], _, h => by cases h
  | k + 1, _ :: _, [], h => by cases h
  | k + 1, i :: is, e :: es, h => by
    have h1 := Bool.and_eq_true_iff.mp (show (nmS X.env.scope N i e && nmsU X.env.scope N (some k) is es) = true from h)
    obtain ⟨p, x, pos, rfl⟩ := nmS_of G hN h1.1
    obtain ⟨q1, q2, q3⟩ := nmsU_of G hN h1.2
    have e0 : assignEach (.Name x pos :: es) X.env = (false, assign (.Name x pos) X.env) :: assignEach es X.env := rfl
    refine ⟨pgs_cons p q1 rfl, ?_, ?_⟩
    · rw [e0, List.length_cons, List.length_cons, q2]
    · rw [e0, List.findIdx?_cons, q3]
      rfl
theorem nmsU_none {is : List Nat} {es : List Expr} : nmsU sc N none is es = nmsS sc N is es := by
  cases is <;> cases es <;> rfl
theorem fm_lt {α β : Type} {f : α → Option β} : ∀ {l : List α}, (∃ e ∈ l, f e = none) → (l.filterMap f).length < l.length
  | [], ⟨_, h, _⟩ => by cases h
  | a :: l, ⟨e, h, q⟩ => by
    have le : (l.filterMap f).length ≤ l.length := List.length_filterMap_le f l
    cases z : f a with
    | none => rw [List.filterMap_cons_none z, List.length_cons]; omega
    | some b =>
      rw [List.filterMap_cons_some z, List.length_cons, List.length_cons]
      rcases List.mem_cons.mp h with r | r
      · rw [← r, q] at z; cases z
      · have := fm_lt ⟨e, r, q⟩; omega
theorem sw_none {es : List Expr} {v : Expr} {kt : Nat} {pt : Pos} {env : Env} (h : noSwap env.scope es v = true) : swappedStores [.Tuple es kt pt] v env = pure none := by
  cases v with
  | Tuple vs k p =>
    have h : ((decide (4 ≤ es.length) || (vs.all notStar && vs.all (foldedForSure 8))) || es.any (cellN env.scope)) = true := h
    unfold swappedStores
    by_cases hc : es.any (cellN env.scope) = true
    · simp only []
      split
      · rfl
      · split
        · rfl
        · rw [if_pos]
          rw [Bool.or_eq_true]
          left
          rw [bne_iff_ne]
          refine Nat.ne_of_lt (fm_lt ?_)
          obtain ⟨e, he, hn⟩ := List.any_eq_true.mp hc
          refine ⟨e, he, ?_⟩
          cases e with
          | Name x p =>
            have q : (env.kindOf x == some .local) = false := by
              have hn : (!(env.scope.names.lookup x == some .local)) = true := hn
              show (env.scope.names.lookup x == some .local) = false
              exact (Bool.not_eq_true' _).mp hn
            simp only [q, Bool.false_and]
            rfl
          | _ => cases hn
    rw [Bool.not_eq_true] at hc
    rw [hc, Bool.or_false] at h
    by_cases h4 : 4 ≤ es.length
    · have e : (!(es.length == 2 || es.length == 3) || vs.length != es.length || env.blockKind != .function) = true := by
        have a : (es.length == 2) = false := by simp; omega
        have b : (es.length == 3) = false := by simp; omega
        rw [a, b]
        rfl
      simp only [e, if_true]
    · have h' : (vs.all notStar && vs.all (foldedForSure 8)) = true := by simpa [h4] using h
      have h2 := Bool.and_eq_true_iff.mp h'
      simp only [h2.2, if_true]
      split
      · rfl
      · rw [if_neg (by rw [st_any _ (fun e h => by cases e <;> first | exact absurd h Bool.false_ne_true | rfl) _ h2.1]; exact Bool.false_ne_true)]
        split <;> rfl
  | _ => rfl
theorem ss_unp (G : GoodS X M E) (hN : X.N = N) {is : List Nat} {star : Option Nat} {es : List Expr} {v : Expr} {kt : Nat} {pt pos : Pos} {mi : Ev → AH → R D} (h1 : nmsU X.env.scope N star is es = true) (h2 : noSwap X.env.scope es v = true) (h3 : notComp v = true) (he : PE X v (tM X.K E mi)) :
    PS X (.Assign [.Tuple es kt pt] v pos) (tS X.K E fun ρ h => (mi ρ h).toS fun d h1 => unpD is star d ρ h1) := by
  have hs : swapsWithSole [.Tuple es kt pt] v pos.line X.env = pure false := by
    show swapsWith v (some (.Tuple es kt pt)) pos.line X.env = pure false
    exact swaps_ns h3 _ _ _
  cases star with
  | none =>
    obtain ⟨q1, q2, q3⟩ := nmsS_of G hN (nmsU_none.symm.trans h1)
    refine PS.wk (ps_asg he (pg_seq G.calm q1 q2 q3) hs (sw_none h2) rfl) fun D σ H hq => ?_
    obtain ⟨θ, ρ, h, en, hr, a⟩ := hq
    refine seqES en hr a fun d h1 w θ1 H1 e1 x1 en1 hr1 r1 a1 => ?_
    have a1 : AfterS X.K θ1 H1 E (match sqD h1 d with
      | some xs => if xs.length = is.length then .nx (setMany ρ is xs) h1 else .bad
      | none => .bad) D := a1
    cases q : sqD h1 d with
    | none => rw [q] at a1; exact False.elim a1
    | some xs =>
      rw [q] at a1
      by_cases hl : xs.length = is.length
      · simp only [if_pos hl] at a1
        have fin : ∀ {vs : List V}, Reps X.K θ1 H1 xs vs → gNames is vs σ H1 D.nx := fun rs => gNames_ok rs hl en1 fun σ' en' _ _ => a1 σ' θ1 H1 Ext.refl en' hr1
        have lst : lsD h1 d = some xs → gSeq X.K is.length (gNames is) w σ H1 D.nx := fun e => by
          obtain ⟨p, vs, rfl, f, rs⟩ := lsD_ok hr1 r1 e
          exact .inr ⟨p, vs, rfl, SqL.of f, by rw [← rs.len]; exact hl, fin rs⟩
        cases r1 with
        | @tup ys vs p f rs =>
          cases q
          exact .inl ⟨p, vs, rfl, f.sq, by rw [← rs.len]; exact hl, fin rs⟩
        | _ => exact lst q
      · simp only [if_neg hl] at a1
        exact False.elim a1
  | some i =>
    obtain ⟨q1, q2, q3⟩ := nmsU_of G hN h1
    refine PS.wk (ps_asg he (pg_star G.calm q1 q2 q3) hs (sw_none h2) rfl) fun D σ H hq => ?_
    obtain ⟨θ, ρ, h, en, hr, a⟩ := hq
    refine seqES en hr a fun d h1 w θ1 H1 e1 x1 en1 hr1 r1 a1 => ?_
    cases r1 with
    | @tup xs vs p f rs =>
      have a1 : AfterS X.K θ1 H1 E (if i < is.length ∧ is.length ≤ xs.length + 1 then .nx (setMany ρ is (xs.take i ++ [.lst ((xs.drop i).take (xs.length + 1 - is.length))] ++ xs.drop (i + (xs.length + 1 - is.length)))) h1 else .bad) D := a1
      by_cases hl : i < is.length ∧ is.length ≤ xs.length + 1
      · simp only [if_pos hl] at a1
        have lv := rs.len
        refine ⟨p, vs, rfl, f.sq, hl.1, by rw [← lv]; exact hl.2, fun L hL => ?_⟩
        have ex := Ext.laid (θ := θ1) (o := .lst ((vs.drop i).take (vs.length + 1 - is.length))) hL
        have rs' := rs.mono ex
        have e : xs.length + 1 - is.length = vs.length + 1 - is.length := by rw [lv]
        have rm : Reps X.K θ1 (upd H1 L (.lst ((vs.drop i).take (vs.length + 1 - is.length)))) ((xs.drop i).take (vs.length + 1 - is.length)) ((vs.drop i).take (vs.length + 1 - is.length)) := (rs'.drop i).take _
        have ra : Reps X.K θ1 (upd H1 L (.lst ((vs.drop i).take (vs.length + 1 - is.length)))) (xs.take i ++ [.lst ((xs.drop i).take (xs.length + 1 - is.length))] ++ xs.drop (i + (xs.length + 1 - is.length))) (vs.take i ++ [.ref L] ++ vs.drop (i + (vs.length + 1 - is.length))) := by
          rw [e]
          exact ((rs'.take i).append (.cons (.lst ⟨upd_same, hr1.fresh hL⟩ rm) .nil)).append (rs'.drop _)
        refine gNames_ok ra ?_ (en1.mono ex) fun σ' en' _ _ => a1 σ' θ1 _ ex en' (hr1.laid hL)
        simp
        omega
      · simp only [if_neg hl] at a1
        exact False.elim a1
    | _ => exact False.elim a1
theorem for_run {K : PySem.W.Frag} {E : XW} {tg : Tg} {mb : Ev → AH → RS} {xs : List D} {ck : AH → Bool} {L : Th → Hp → Prop} {J : It} {σ1 : L2.St} {ρ1 : Ev} {θ1 : Th} {H1 : Hp} {h1 : AH} {Dn : Ends}
    (W : Wk K J xs ck L) (hLx : ∀ θ H θ' H', Ext θ H θ' H' → L θ H → L θ' H') (l1 : L θ1 H1) (e1 : EnvRep K θ1 H1 σ1 ρ1) (hr1 : HRep K θ1 H1 h1)
    (a : AfterS K θ1 H1 E (forLoop (fun x ρ h => match tg.bind x ρ with
      | some ρ' => mb ρ' h
      | none => .bad) ck xs ρ1 h1) Dn) :
    ∃ W : Nat → Nat → L2.St → Hp → Prop, (∃ m, W 0 m σ1 H1) ∧ ∀ i m σ H, W i m σ H →
      (J.stop i H ∧ Dn.nx σ H) ∨ (J.go i H ∧ ∃ N : L2.St → Hp → Prop, (∀ σ' H', N σ' H' → ∃ m', m' < m ∧ W (i + 1) m' σ' H') ∧ ∀ x H', J.yld i H x H' → gT K tg x σ H' fun σ2 H2 => tS K E mb { Dn with nx := N, ct := N, bk := Dn.nx } σ2 H2) := by
  let St : Nat → L2.St → Hp → Prop := fun i σ H => ∃ (θ : Th) (ρ : Ev) (h : AH), EnvRep K θ H σ ρ ∧ HRep K θ H h ∧ L θ H ∧ AfterS K θ H E (forLoop (fun x ρ h => match tg.bind x ρ with
      | some ρ' => mb ρ' h
      | none => .bad) ck (xs.drop i) ρ h) Dn
  refine ⟨fun i m σ H => m = xs.length - i ∧ i ≤ xs.length ∧ St i σ H, ⟨xs.length, by simp, Nat.zero_le _, θ1, ρ1, h1, e1, hr1, l1, by simpa using a⟩, ?_⟩
  rintro i m σ H ⟨rfl, hi, θ, ρ, h, en, hr, l, a⟩
  have hck : ck h = true := by
    cases q : ck h with
    | true => rfl
    | false =>
      cases z : xs.drop i with
      | nil => rw [z] at a; simp only [forLoop, q] at a; exact False.elim a
      | cons y ys => rw [z] at a; simp only [forLoop, q] at a; exact False.elim a
  by_cases hlt : i < xs.length
  · refine .inr ⟨W.go i _ H h l hr hck hlt, St (i + 1), fun σ' H' s => ⟨xs.length - (i + 1), by omega, rfl, hlt, s⟩, fun v H' y => ?_⟩
    obtain ⟨d, ed, x, kp, rd⟩ := W.yld i _ H h v H' l hr hck hlt y
    have hd : xs.drop i = d :: xs.drop (i + 1) := by
      rw [List.drop_eq_getElem_cons hlt]
      have : xs[i] = d := by simpa [hlt] using ed
      rw [this]
    rw [hd] at a
    simp only [forLoop, hck] at a
    have hr' : HRep K θ H' h := hr.keep x rfl fun a ha => kp a (hr.has ha)
    cases qb : tg.bind d ρ with
    | none => simp only [qb] at a; exact False.elim a
    | some ρ0 =>
    simp only [qb] at a
    refine gT_ok (en.mono x) rd qb fun σ2 en2 _ => ?_
    refine ⟨θ, ρ0, h, en2, hr', ?_⟩
    cases q : mb ρ0 h with
    | nx ρ' h' =>
      simp only [q] at a
      intro σ' θ' H'' x' en' hr''
      exact ⟨θ', ρ', h', en', hr'', hLx _ _ _ _ (x.trans x') l, AfterS.ext a (x.trans x')⟩
    | ct ρ' h' =>
      simp only [q] at a
      intro σ' θ' H'' x' en' hr''
      exact ⟨θ', ρ', h', en', hr'', hLx _ _ _ _ (x.trans x') l, AfterS.ext a (x.trans x')⟩
    | bk ρ' h' => simp only [q] at a; exact AfterS.ext a x
    | rt d h' => simp only [q] at a; exact AfterS.ext a x
    | exc c fs h' => simp only [q] at a; exact AfterS.ext a x
    | bad => simp only [q] at a; exact False.elim a
  · have e : xs.drop i = [] := List.drop_eq_nil_of_le (by omega)
    refine .inl ⟨W.stop i _ H h l hr hck (by omega), ?_⟩
    rw [e] at a
    simp only [forLoop, hck] at a
    exact a σ θ H Ext.refl en hr
theorem ss_for (G : GoodS X M E) (hN : X.N = N) {t : Tg} {tg x : Expr} {body : List Stmt} {pos : Pos} {mi : Ev → AH → R (List D × (AH → Bool))} {mb : Ev → AH → RS} (hi : PI X tg x (iM X.K E mi)) (hset : ∀ z, foldedSetIterable x X.env z = pure z) (h2 : tgS X.env.scope N t tg = true) (hb : PSs X body (tS X.K E mb)) :
    PS X (.For tg x body [] pos) (tS X.K E fun ρ h => (mi ρ h).toS fun p h1 => forLoop (fun x ρ h => match t.bind x ρ with
      | some ρ' => mb ρ' h
      | none => .bad) p.2 p.1 ρ h1) := by
  refine PS.wk (ps_for G.own G.calm hi (tgS_of G hN h2) hb hset) fun D σ H hq => ?_
  obtain ⟨θ, ρ, h, en, hr, a⟩ := hq
  dsimp only at a
  refine ⟨θ, ρ, h, en, hr, ?_⟩
  cases q : mi ρ h with
  | bad => rw [q] at a; exact a
  | exc c fs h' => rw [q] at a; exact a
  | ok p h1 =>
    rw [q] at a
    intro J θ1 H1 L x1 hr1 W hm hx l1
    exact for_run W hx l1 (en.mono x1) hr1 (AfterS.ext a x1)
end
end Mp

set_option Elab.async false
set_option linter.all false
set_option autoImplicit false
set_option maxRecDepth 100000
set_option maxHeartbeats 4000000
namespace Mp
open PySem PySem.Spec L2
section
variable {X : Cx} {M : Mdl} {E : XW} {N : List Str} {sc : Scope}
theorem ss_set (G : Good X M E) {a b e : Expr} {px pos : Pos} {mo mi me : Ev → AH → R D} (h1 : notComp e = true) (h2 : notSlice b = true) (he : PE X e (tM X.K E me)) (ho : PE X a (tM X.K E mo)) (hi : PE X b (tM X.K E mi)) :
    PS X (.Assign [.Subscript a b px] e pos) (tS X.K E fun ρ h => (me ρ h).toS fun v h1 => (mo ρ h1).toS fun d h2 => (mi ρ h2).toS fun k h3 => (setD d k v h3).toS fun _ h4 => .nx ρ h4) := by
  have hs : swapsWithSole [.Subscript a b px] e pos.line X.env = pure false := by
    show swapsWith e (some (.Subscript a b px)) pos.line X.env = pure false
    exact swaps_ns h1 _ _ _
  have has : ∀ v, assign (.Subscript a b px) X.env v = (do
      let ov ← holding [v] (eval a X.env)
      let iv ← holding [v, ov] (eval b X.env)
      standAt px
      holding [v, ov, iv] (setItem ov iv v)
      release [v, ov, iv] []) := by
    intro v
    cases b <;> first | rfl | cases h2
  have hw : swappedStores [.Subscript a b px] e X.env = pure none := by
    cases e <;> rfl
  refine PS.wk (ps_asg he (pg_sub ho hi (setS (E := E)) has) hs hw rfl) fun D σ H hq => ?_
  obtain ⟨θ, ρ, h, en, hr, a⟩ := hq
  refine seqES en hr a fun v h1 vv θ1 H1 e1 x1 en1 hr1 r1 a1 => ?_
  refine seqES en1 hr1 a1 fun d h2 vd θ2 H2 e2 x2 en2 hr2 r2 a2 => ?_
  refine seqES en2 hr2 a2 fun k h3 vk θ3 H3 e3 x3 en3 hr3 r3 a3 => ?_
  refine ⟨θ3, h3, d, k, v, hr3, r2.mono x3, r3, (r1.mono x2).mono x3, ?_⟩
  cases q : setD d k v h3 with
  | ok u h4 => rw [q] at a3; exact fun θ' H' x' hr' => a3 σ θ' H' x' (en3.mono x') hr'
  | exc c fs h4 => rw [q] at a3; exact a3
  | bad => rw [q] at a3; exact a3
theorem ss_exp {e : Expr} {pos : Pos} {me : Ev → AH → R D} (h1 : notComp e = true) (he : PE X e (tM X.K E me)) : PS X (.Expr e pos) (tS X.K E fun ρ h => (me ρ h).toS fun _ h1 => .nx ρ h1) := by
  refine PS.wk (ps_expr he (swaps_ns h1 _ _ _)) fun D σ H hq => ?_
  obtain ⟨θ, ρ, h, en, hr, a⟩ := hq
  exact seqES en hr a fun d h1 v θ1 H1 e1 x1 en1 hr1 r1 a1 => a1 σ θ1 H1 Ext.refl en1 hr1
theorem ss_ret {e : Expr} {pos : Pos} {me : Ev → AH → R D} (he : PE X e (tM X.K E me)) : PS X (.Return (some e) pos) (tS X.K E fun ρ h => (me ρ h).toS fun d h1 => .rt d h1) := by
  refine PS.wk (ps_ret he) fun D σ H hq => ?_
  obtain ⟨θ, ρ, h, en, hr, a⟩ := hq
  exact seqES en hr a fun d h1 v θ1 H1 e1 x1 en1 hr1 r1 a1 => a1 v θ1 H1 Ext.refl hr1 r1
theorem ss_if {c : Expr} {xs ys : List Stmt} {pos : Pos} {mt : Ev → AH → R D} {ma mb : Ev → AH → RS} (ht : PT X c (tMT X.K E fun ρ h => (mt ρ h).bind truR)) (ha : PSs X xs (tS X.K E ma)) (hb : PSs X ys (tS X.K E mb)) :
    PS X (.If c xs ys pos) (tS X.K E fun ρ h => ((mt ρ h).bind truR).toS fun c h1 => match c with
      | true => ma ρ h1
      | false => mb ρ h1) := by
  refine PS.wk (ps_if ht ha hb) fun D σ H hq => ?_
  obtain ⟨θ, ρ, h, en, hr, a⟩ := hq
  refine seqTS en hr a fun b h1 θ1 H1 e1 x1 en1 hr1 a1 => ?_
  cases b with
  | true => exact iteT ⟨θ1, ρ, h1, en1, hr1, a1⟩
  | false => exact iteF ⟨θ1, ρ, h1, en1, hr1, a1⟩
theorem ss_nil : PSs X [] (tS X.K E fun ρ h => .nx ρ h) := PSs.wk pss_nil fun D σ H hq => by
  obtain ⟨θ, ρ, h, en, hr, a⟩ := hq
  exact a σ θ H Ext.refl en hr
theorem ss_seq {s : Stmt} {ss : List Stmt} {ma mb : Ev → AH → RS} (ha : PS X s (tS X.K E ma)) (hb : PSs X ss (tS X.K E mb)) : PSs X (s :: ss) (tS X.K E fun ρ h => (ma ρ h).andThen fun ρ1 h1 => mb ρ1 h1) := by
  refine PSs.wk (pss_cons ha hb) fun D σ H hq => ?_
  obtain ⟨θ, ρ, h, en, hr, a⟩ := hq
  refine ⟨θ, ρ, h, en, hr, ?_⟩
  cases q : ma ρ h with
  | nx ρ1 h1 => simp only [q] at a; exact fun σ' θ' H' x' en' hr' => ⟨θ', ρ1, h1, en', hr', AfterS.ext a x'⟩
  | rt d h1 => simp only [q] at a; exact a
  | bk ρ1 h1 => simp only [q] at a; exact a
  | ct ρ1 h1 => simp only [q] at a; exact a
  | exc c fs h1 => simp only [q] at a; exact a
  | bad => simp only [q] at a; exact a
theorem ss_pass {pos : Pos} : PS X (.Pass pos) (tS X.K E fun ρ h => .nx ρ h) := PS.wk ps_pass fun D σ H hq => by
  obtain ⟨θ, ρ, h, en, hr, a⟩ := hq
  exact a σ θ H Ext.refl en hr
theorem ss_break {pos : Pos} : PS X (.Break pos) (tS X.K E fun ρ h => .bk ρ h) := PS.wk ps_break fun D σ H hq => by
  obtain ⟨θ, ρ, h, en, hr, a⟩ := hq
  exact a σ θ H Ext.refl en hr
theorem ss_continue {pos : Pos} : PS X (.Continue pos) (tS X.K E fun ρ h => .ct ρ h) := PS.wk ps_continue fun D σ H hq => by
  obtain ⟨θ, ρ, h, en, hr, a⟩ := hq
  exact a σ θ H Ext.refl en hr
/-! ### every statement -/
structure SndS (M : Mdl) (N : List Str) (c : S) : Prop where
  s : ∀ (X : Cx) (E : XW), GoodS X M E → X.N = N → ∀ st, chkS M N c X.env.scope st = true → PS X st (tS X.K E (ex M c))
  b : ∀ (X : Cx) (E : XW), GoodS X M E → X.N = N → ∀ ss, chkB M N c X.env.scope ss = true → PSs X ss (tS X.K E (ex M c))
  c : ∀ (X : Cx) (E : XW), GoodS X M E → X.N = N → ∀ cs, chkC M N c X.env.scope cs = true → PC X cs (exC M c) E
theorem SndS.plain {c : S} (hs : ∀ (X : Cx) (E : XW), GoodS X M E → X.N = N → ∀ st, chkS M N c X.env.scope st = true → PS X st (tS X.K E (ex M c))) (hb : ∀ sc ss, chkB M N c sc ss = false) (hc : ∀ sc cs, chkC M N c sc cs = false) : SndS M N c :=
  ⟨hs, fun X E G hN ss h => absurd h (by rw [hb]; exact Bool.false_ne_true), fun X E G hN cs h => absurd h (by rw [hc]; exact Bool.false_ne_true)⟩
theorem soundS (M : Mdl) (N : List Str) (c : S) : SndS M N c := by
  induction c with
  | asg i e =>
    refine .plain (fun X E G hN st h => ?_) (fun _ ss => by cases ss <;> rfl) (fun _ cs => by cases cs <;> rfl)
    cases st with
    | Assign ts v pos => cases ts with
      | nil => cases h
      | cons t ts => cases t with
        | Name x px => cases ts with
          | cons _ _ => cases h
          | nil =>
            have h1 := Bool.and_eq_true_iff.mp h
            have h2 := Bool.and_eq_true_iff.mp h1.2
            have h3 := Bool.and_eq_true_iff.mp h2.2
            exact ss_asg G hN (by rw [hN]; exact of_decide_eq_true h1.1) h2.1 h3.1 h3.2
        | _ => cases ts <;> cases h
    | _ => cases h
  | par i j es =>
    refine .plain (fun X E G hN st h => ?_) (fun _ ss => by cases ss <;> rfl) (fun _ cs => by cases cs <;> rfl)
    unfold chkS at h
    split at h <;> first | cases h | skip
    all_goals (rename_i q; cases q)
    have h1 := Bool.and_eq_true_iff.mp h
    have h2 := Bool.and_eq_true_iff.mp h1.2
    have h3 := Bool.and_eq_true_iff.mp h2.2
    have h4 := Bool.and_eq_true_iff.mp h3.2
    have h5 := Bool.and_eq_true_iff.mp h4.2
    exact ss_par G hN h1.1 h2.1 (of_decide_eq_true h3.1) h4.1 h5.1 h5.2 (pa_of h5.2 ((sound M N _).a X E G.toGood hN _ h5.2).1)
  | unp is star e =>
    refine .plain (fun X E G hN st h => ?_) (fun _ ss => by cases ss <;> rfl) (fun _ cs => by cases cs <;> rfl)
    unfold chkS at h
    split at h <;> first | cases h | skip
    all_goals (rename_i q; cases q)
    have h1 := Bool.and_eq_true_iff.mp h
    have h2 := Bool.and_eq_true_iff.mp h1.2
    have h3 := Bool.and_eq_true_iff.mp h2.2
    exact ss_unp G hN h1.1 h2.1 h3.1 ((sound M N _).e X E G.toGood hN _ h3.2).1
  | par3 i j l es =>
    refine .plain (fun X E G hN st h => ?_) (fun _ ss => by cases ss <;> rfl) (fun _ cs => by cases cs <;> rfl)
    unfold chkS at h
    split at h <;> first | cases h | skip
    all_goals (rename_i q; cases q)
    have h1 := Bool.and_eq_true_iff.mp h
    have h2 := Bool.and_eq_true_iff.mp h1.2
    have h3 := Bool.and_eq_true_iff.mp h2.2
    have h4 := Bool.and_eq_true_iff.mp h3.2
    have h5 := Bool.and_eq_true_iff.mp h4.2
    have h6 := Bool.and_eq_true_iff.mp h5.2
    have h7 := Bool.and_eq_true_iff.mp h5.1
    exact ss_par3 G hN h1.1 h2.1 h3.1 (of_decide_eq_true h4.1) h7.1 h7.2 h6.1 h6.2 (pa_of h6.2 ((sound M N _).a X E G.toGood hN _ h6.2).1)
  | set o i e =>
    refine .plain (fun X E G hN st h => ?_) (fun _ ss => by cases ss <;> rfl) (fun _ cs => by cases cs <;> rfl)
    cases st with
    | Assign ts v pos => cases ts with
      | nil => cases h
      | cons t ts => cases t with
        | Subscript a b px => cases ts with
          | cons _ _ => cases h
          | nil =>
            have h1 := Bool.and_eq_true_iff.mp h
            have h2 := Bool.and_eq_true_iff.mp h1.2
            have h3 := Bool.and_eq_true_iff.mp h2.2
            have h4 := Bool.and_eq_true_iff.mp h3.2
            exact ss_set G.toGood h1.1 h2.1 ((sound M N e).e X E G.toGood hN v h3.1).1 ((sound M N o).e X E G.toGood hN a h4.1).1 ((sound M N i).e X E G.toGood hN b h4.2).1
        | _ => cases ts <;> cases h
    | _ => cases h
  | exp e =>
    refine .plain (fun X E G hN st h => ?_) (fun _ ss => by cases ss <;> rfl) (fun _ cs => by cases cs <;> rfl)
    cases st with
    | Expr x pos =>
      have h1 := Bool.and_eq_true_iff.mp h
      exact ss_exp h1.1 ((sound M N e).e X E G.toGood hN x h1.2).1
    | _ => cases h
  | ret e =>
    refine .plain (fun X E G hN st h => ?_) (fun _ ss => by cases ss <;> rfl) (fun _ cs => by cases cs <;> rfl)
    cases st with
    | Return v pos => cases v with
      | none => cases h
      | some x => exact ss_ret ((sound M N e).e X E G.toGood hN x h).1
    | _ => cases h
  | ife t a b ia ib =>
    refine .plain (fun X E G hN st h => ?_) (fun _ ss => by cases ss <;> rfl) (fun _ cs => by cases cs <;> rfl)
    cases st with
    | If c xs ys pos =>
      have h1 := Bool.and_eq_true_iff.mp h
      have h2 := Bool.and_eq_true_iff.mp h1.2
      have h3 := Bool.and_eq_true_iff.mp h2.2
      exact ss_if (((sound M N t).e X E G.toGood hN c h2.1).2 h1.1) (ia.b X E G hN xs h3.1) (ib.b X E G hN ys h3.2)
    | _ => cases h
  | for_ t it b ib =>
    refine .plain (fun X E G hN st h => ?_) (fun _ ss => by cases ss <;> rfl) (fun _ cs => by cases cs <;> rfl)
    cases st with
    | For tg x body els pos => cases els with
      | cons _ _ => cases h
      | nil =>
        have h1 := Bool.and_eq_true_iff.mp h
        have h2 := Bool.and_eq_true_iff.mp h1.2
        have z := (sound M N it).t X E G.toGood hN tg x h1.1
        exact ss_for G hN z.1 z.2 h2.1 (ib.b X E G hN body h2.2)
    | _ => cases h
  | pass =>
    refine .plain (fun X E G hN st h => ?_) (fun _ ss => by cases ss <;> rfl) (fun _ cs => by cases cs <;> rfl)
    cases st with
    | Pass pos => exact ss_pass
    | _ => cases h
  | brk =>
    refine .plain (fun X E G hN st h => ?_) (fun _ ss => by cases ss <;> rfl) (fun _ cs => by cases cs <;> rfl)
    cases st with
    | Break pos => exact ss_break
    | _ => cases h
  | cnt =>
    refine .plain (fun X E G hN st h => ?_) (fun _ ss => by cases ss <;> rfl) (fun _ cs => by cases cs <;> rfl)
    cases st with
    | Continue pos => exact ss_continue
    | _ => cases h
  | mat e cs ic =>
    refine .plain (fun X E G hN st h => ?_) (fun _ ss => by cases ss <;> rfl) (fun _ cs => by cases cs <;> rfl)
    cases st with
    | Match x cases pos =>
      have h1 := Bool.and_eq_true_iff.mp h
      exact ss_mat ((sound M N e).e X E G.toGood hN x h1.1).1 (ic.c X E G hN cases h1.2)
    | _ => cases h
  | cas xs b rest ib ir =>
    refine ⟨fun X E G hN st h => (by cases st <;> cases h), fun X E G hN ss h => (by cases ss <;> cases h), fun X E G hN cs h => ?_⟩
    cases cs with
    | nil => cases h
    | cons c cs =>
      obtain ⟨p, g, body⟩ := c
      cases g with
      | some _ => cases h
      | none =>
        have h1 := Bool.and_eq_true_iff.mp h
        have h2 := Bool.and_eq_true_iff.mp h1.2
        exact pc_cas h1.1 (ib.b X E G hN body h2.1) (ir.c X E G hN cs h2.2)
  | casd b ib =>
    refine ⟨fun X E G hN st h => (by cases st <;> cases h), fun X E G hN ss h => (by cases ss <;> cases h), fun X E G hN cs h => ?_⟩
    unfold chkC at h
    split at h <;> first | cases h | skip
    all_goals (rename_i q; cases q)
    exact pc_dflt (ib.b X E G hN _ h)
  | nil =>
    refine ⟨fun X E G hN st h => (by cases h), fun X E G hN ss h => ?_, fun X E G hN cs h => ?_⟩
    · cases ss with
      | nil => exact ss_nil
      | cons _ _ => cases h
    · cases cs with
      | nil => exact pc_nil
      | cons _ _ => cases h
  | seq a b ia ib =>
    refine ⟨fun X E G hN st h => (by cases h), fun X E G hN ss h => ?_, fun X E G hN cs h => (by cases cs <;> cases h)⟩
    cases ss with
    | nil => cases h
    | cons s ss =>
      have h1 := Bool.and_eq_true_iff.mp h
      exact ss_seq (ia.s X E G hN s h1.1) (ib.b X E G hN ss h1.2)
end
end Mp

set_option Elab.async false
set_option linter.all false
set_option autoImplicit false
set_option maxRecDepth 100000
set_option maxHeartbeats 4000000
namespace Mp
open PySem PySem.Spec L2
/-! ### a def of the text -/
def RS.toR : RS → R D
  | .nx _ h => .ok .non h
  | .rt d h => .ok d h
  | .exc c fs h => .exc c fs h
  | _ => .bad
def fnEv (M : Mdl) (N : List Str) (n : Nat) (c : S) (ds : List D) (h : AH) : R D :=
  if ds.length = n then (ex M c (ds.map some ++ List.replicate (N.length - n) none) h).toR else .bad
/-- what does not change from def to def -/
structure Ground (P : Program) (w : World) (K : PySem.W.Frag) (mg : Str → Option Value) (base : Heap) (M : Mdl) : Prop where
  sys : SysD K
  glo : ∀ x d, M.gl x = some d → ∃ u v, mg x = some u ∧ RelV v u ∧ ∀ θ H, Rep K θ H d v
  free : ∀ x, M.fr x = true → mg x = none
  fns : ∀ f a fd ps, M.tb f = some (a, fd, ps) → FnIs P w K mg base M f a fd ps
  dts : ∀ x t, M.dt x = some t → DtIs w K mg x t
  xcs : ∀ c fs, M.xc c = some fs → XcIs P K mg M c fs
  xss : ∀ c x b, M.xs c x = some b → XsIs K mg c x b
  ocs : ∀ x, M.oc x = true → mg x = some (.ref (He.ga K x))
theorem start_rep {K : PySem.W.Frag} {θ : Th} {H : Hp} {N : List Str} {ds : List D} {vs : List V} (r : Reps K θ H ds vs) (n : Nat) (hn : ds.length = n) : EnvRep K θ H (L2.start N vs) (ds.map some ++ List.replicate (N.length - n) none) := by
  have hl : ds.length = vs.length := r.len
  refine ⟨?_, fun i d e => ?_⟩
  · simp [L2.start, ← hl, hn]
  · by_cases hi : i < ds.length
    · rw [List.getElem?_append_left (by simpa using hi), List.getElem?_map] at e
      cases q : ds[i]? with
      | none => rw [q] at e; cases e
      | some y =>
        rw [q] at e
        cases e
        obtain ⟨v, h1, h2⟩ := r.get q
        refine ⟨v, ?_, h2⟩
        unfold L2.start
        rw [List.getElem?_append_left (by simpa [← hl] using hi), List.getElem?_map, h1]
        rfl
    · rw [List.getElem?_append_right (by simpa using hi), List.getElem?_replicate] at e
      split at e <;> cases e
section
variable {P : Program} {w : World} {K : PySem.W.Frag} {mg : Str → Option Value} {base : Heap} {x qual : Str} {params : Arguments} {body : List Stmt} {scope : Scope} {dvs : List V} {kws : List (Str × V)} {f : Addr} {fd : FuncData} {N ps : List Str}
theorem good_of {M : Mdl} {A : Around} {outer : List Env} {s : Shared} {H : Hp} {E : XW} {cdv : Value} (Gr : Ground P w K mg base M) (S : FnScope N ps scope) (hr : Room M.k (A.deeper (PyProof.Rows.envOfC qual scope s.heap.objs.size f cdv))) (hg : A.guards = some []) :
    GoodS (cxOf (CX P w) P w K mg base N qual scope f cdv A outer s H (xk K E)) M E where
  room := hr
  gds := hg
  calm := rfl
  nd := S.nd
  sys := Gr.sys
  pass := passes_call (W := fun cls d _ H' => xk K E cls d H') (takes_of rfl rfl rfl rfl) fun _ _ _ _ q => q
  own := passes_of (K := fun e s'' => CX P w outer H s (xk K E) e s'') rfl
  glo := Gr.glo
  free := Gr.free
  fns := Gr.fns
  dts := Gr.dts
  xcs := Gr.xcs
  xss := Gr.xss
  ocs := Gr.ocs
  fnT := fun _ => rfl
theorem fnRun_of {M : Mdl} {c : S} (F : FunD K x qual params body scope dvs kws f fd) (S : FnScope N ps scope) (Gr : Ground P w K mg base M) (hc : chkB M N c scope body = true) :
    FnRun P w K mg base (M.k + 1) f fd ps (fnEv M N ps.length c) := by
  obtain ⟨oc, od, dV, kV, doc, pm, an, cdv, ct, osl, rfl, lk, hcd, _, _⟩ := F.ex
  intro A outer s H args us vs θ h ds Q E hr hg e0 hb r hh rs a
  unfold fnEv at a
  split at a
  case isFalse => exact False.elim a
  rename_i hl
  have hv : vs.length = ps.length := by rw [← hl]; exact rs.len.symm
  have kin : K.In s.heap := e0.mod.kin.keeps fun b o e => (e0.bs b o e).1
  have nl : s.heap.NoLimit := e0.mod.nolimit.keeps fun b o e => (e0.bs b o e).1
  refine codeAny_call_function hr.depth (kin _ _ lk) rfl S.co S.gen rfl (PySem.W.codeRec_of kin hcd) (hb _ _ _ _ ?_)
  refine wpAny_newFunctionEnv_cells S.kind ?_ ?_
  · rintro ⟨n, v⟩ hy
    rcases S.par n (List.of_mem_zip hy).1 with q | q
    · exact .inl q
    · exact .inr ⟨q, PySem.W.cellsFrom_some _ _ _ (.inl q)⟩
  intro env he s1 x1
  subst he
  refine ⟨nl.keeps x1.toInCall.keep, codeAny_func ?_⟩
  have G := good_of (qual := qual) (f := f) (cdv := cdv) (outer := outer) (H := H) (E := E) (s := s) Gr S (hr.deeper _) hg
  have I := inv_start (CX := CX P w) (E := xk K E) (qual := qual) (f := f) (cd := cdv) S hr.hd e0 hv r x1
  have B := (soundS M N c).b _ E G rfl body hc
  have close : ∀ {σ' : L2.St} {H' : Hp} {v : V} {u : Value} {s' : Shared}, Inv (cxOf (CX P w) P w K mg base N qual scope f cdv A outer s H (xk K E)) [] σ' H' s' → RelV v u → Q v H' → CE outer P w H s Q u s' :=
    fun {σ' H' v u s'} J rv q => ⟨v, H', J.os, J.bare, J.base, J.hok, rv, q⟩
  refine wpAny_mono (B.run [] s1 _ H { nx := fun _ H' => Q .non H', rt := Q } I ⟨θ, _, h, start_rep rs _ hl, hh, ?_⟩) ?_ fun _ _ hs => hs
  · cases q : ex M c (ds.map some ++ List.replicate (N.length - ps.length) none) h with
    | nx ρ h1 => rw [q] at a; exact fun σ' θ' H' x' _ hr' => a .non θ' H' x' hr' .non
    | rt d h1 => rw [q] at a; exact fun v θ' H' x' hr' rp => a v θ' H' x' hr' rp
    | bk ρ h1 => rw [q] at a; exact False.elim a
    | ct ρ h1 => rw [q] at a; exact False.elim a
    | exc c fs h1 => rw [q] at a; exact a
    | bad => rw [q] at a; exact False.elim a
  · intro fl s' hs
    cases fl with
    | next =>
      obtain ⟨_, _, J, q⟩ := hs
      exact close (v := V.non) (u := Value.none) J rfl q
    | ret u =>
      obtain ⟨_, _, _, J, rv, q⟩ := hs
      exact close J rv q
    | brk =>
      obtain ⟨_, _, _, q⟩ := hs
      exact False.elim q
    | cont =>
      obtain ⟨_, _, _, q⟩ := hs
      exact False.elim q
/-! ### all defs, to every depth -/
/-- a def as the printer prints it -/
structure Df where
  name : Str
  N : List Str
  n : Nat
  body : S
/-- depth 0: nothing answers -/
def phi (G : (Str → List D → AH → R D) → Nat → Mdl) (T : Str → Option Df) : Nat → Str → List D → AH → R D
  | 0, _, _, _ => .bad
  | k + 1, f, ds, h => match T f with
    | some d => fnEv (G (phi G T k) k) d.N d.n d.body ds h
    | none => .bad
end
end Mp

set_option Elab.async false
set_option linter.all false
set_option autoImplicit false
set_option maxRecDepth 100000
set_option maxHeartbeats 4000000
namespace Mp
open PySem PySem.Spec L2
/-! ### the end: the law's def is called -/
theorem law_run {P : Program} {w : World} {K : PySem.W.Frag} {mg mb : Str → Option Value} {k : Nat} {fa a : Addr} {fd : FuncData} {x : Str} {φ : List D → AH → R D} {s₁ : Shared} {vs : List Value} {ns : List Int} {h' : AH}
    (KX : K.In s₁.heap) (hns : s₁.heap.Ns mainGlobals mg) (hb : s₁.heap.Ns builtinsNs mb) (hbb : ∀ x : Str, x ≠ "__name__" → mb x = bootBuiltins x) (hlim : s₁.heap.NoLimit) (hg : s₁.gens = #[])
    (ha : s₁.heap.get? a = some { cls := .type "list", data := .seq vs.toArray }) (hi : PyProof.Rows.IntsAre vs ns) (hl : ns.length ≤ sizeLine) (hr : Room k callerA)
    (F : ∀ base : Heap, K.In base → base.Ns mainGlobals mg → FnRun P w K mg base k fa fd [x] φ) (hbind : ∀ (s : Shared) (u : Value), BindsTo s fd ⟨[u], []⟩ [(x, u)])
    (hφ : φ [.scr (ns.map .int)] [] = .ok (.bl true) h') :
    codeAny (model P w) callerA (.call (.ref fa) ⟨[.ref a], []⟩) (fun r s' => r = .ok (.ret (.bool true)) ∧ OldK s₁.heap s'.heap ∧ s'.os = s₁.os ∧ PyProof.Rows.AllBare s'.gens) s₁ := by
  have rv := vals_ints hi
  have lenV := hi.length
  have reps : ∀ (θ : Th) (H : Hp) (zs : List Int), Reps K θ H (zs.map .int) (zs.map V.int) := by
    intro θ H zs
    induction zs with
    | nil => exact .nil
    | cons z zs ih => exact .cons (.int z) ih
  have go : ∀ H : Hp, Only H → FS K ⟨[], []⟩ H a (ns.map V.int) → HOk P w H s₁.heap → (∀ b, H b ≠ none → b = a ∧ K.lookup a = none) →
      codeAny (model P w) callerA (.call (.ref fa) ⟨[.ref a], []⟩) (fun r s' => r = .ok (.ret (.bool true)) ∧ OldK s₁.heap s'.heap ∧ s'.os = s₁.os ∧ PyProof.Rows.AllBare s'.gens) s₁ := by
    intro H hO hS hok hA
    have hid : ∀ {b : Addr} {o : Obj}, s₁.heap.get? b = some o → H b = none → (hidT s₁.heap H).get? b = some o := fun e n => hidT_get e n
    have notA : ∀ {b : Addr} {o : Obj} {es : Array DictEntry} {ep : Nat}, s₁.heap.get? b = some o → o.data = .dict es ep → H b = none := by
      intro b o es ep e d
      by_cases q : H b = none
      · exact q
      · obtain ⟨rfl, _⟩ := hA b q
        rw [ha] at e
        cases e
        cases d
    have nsK : ∀ {b : Addr} {m : Str → Option Value}, s₁.heap.Ns b m → (hidT s₁.heap H).Ns b m := by
      rintro b m ⟨o, es, ep, e, d, r⟩
      exact ⟨o, es, ep, hid e (notA e d), d, r⟩
    have hKb : K.In (hidT s₁.heap H) := by
      intro b o e
      refine hid (KX b o e) ?_
      by_cases q : H b = none
      · exact q
      · obtain ⟨rfl, z⟩ := hA b q
        rw [z] at e
        cases e
    have lim2 : (hidT s₁.heap H).NoLimit := by
      obtain ⟨mc, h1, h2⟩ := hlim
      exact ⟨mc, nsK h1, h2⟩
    have e0 : Env0 P w K mg (hidT s₁.heap H) callerA [] s₁ H :=
      ⟨rfl, ⟨hKb, nsK hns, ⟨mb, nsK hb, hbb⟩, lim2⟩, fun b o e => of_hidT e, Nat.le_of_eq (hidT_size _ _), trivial, fun b hb => (nomatch hb), hok, .of_eq hg⟩
    have hh : HRep K ⟨[], []⟩ H [] := ⟨rfl, List.nodup_nil, fun _ _ _ z => by simp at z, fun _ z => (nomatch z)⟩
    have aft : After K ⟨[], []⟩ H (fun _ _ _ => False) (φ [.scr (ns.map .int)] []) (fun v _ => v = .bl true) := by
      rw [hφ]
      intro v θ' H' _ _ r
      cases r
      rfl
    refine codeAny_mono (F _ hKb (nsK hns) callerA [] s₁ H ⟨[.ref a], []⟩ [.ref a] [.ref a] ⟨[], []⟩ [] [.scr (ns.map .int)] _ _ hr rfl e0 (hbind s₁ (.ref a)) (.cons rfl .nil) hh (.cons (.scr hS (reps _ _ _)) .nil) aft) fun r s' h => ?_
    cases r with
    | error e =>
      obtain ⟨_, _, _, _, _, _, _, _, _, _, _, _, q⟩ := h
      obtain ⟨_, _, _, _, _, _, z⟩ := q
      exact z.elim
    | ok fl => cases fl with
      | next => exact False.elim h
      | brk => exact False.elim h
      | cont => exact False.elim h
      | ret u =>
        obtain ⟨v, H', os, bare, un, hok', r', q⟩ := h
        have q' : v = .bl true := q
        subst q'
        obtain rfl : u = Value.bool true := r'
        refine ⟨rfl, OldK.of_keep fun b o e => ?_, os, bare⟩
        rcases hO b with z | ⟨ob, xs, z⟩
        · exact un.keep b o e z (fun z => nomatch z) (by simp)
        · obtain ⟨e1, _⟩ := hok b _ z
          obtain ⟨e2, _⟩ := hok' b _ (un.frzs b ob _ z)
          rw [e] at e1
          cases e1
          exact e2
  cases hk : K.lookup a with
  | some o =>
    have e := KX a o hk
    rw [ha] at e
    cases e
    exact go (fun _ => none) (fun _ => .inl rfl) (.inr ⟨_, vs.toArray, _, hk, rfl, rfl, rfl, by rw [List.size_toArray, lenV]; exact hl, by simpa using rv⟩) (fun b u z => nomatch z) (fun b z => absurd rfl z)
  | none =>
    let H0 : Hp := fun b => if b = a then some (.frz { cls := .type "list", data := .seq vs.toArray } (.lst (ns.map V.int))) else none
    have at1 : H0 a = some (.frz { cls := .type "list", data := .seq vs.toArray } (.lst (ns.map V.int))) := if_pos rfl
    have at2 : ∀ b, b ≠ a → H0 b = none := fun b hb => if_neg hb
    refine go H0 (fun b => ?_) (.inl ⟨⟨_, at1⟩, ⟨fun z => (nomatch z), fun z => (nomatch z)⟩⟩) (fun b u z => ?_) (fun b z => ?_)
    · by_cases q : b = a
      · exact .inr ⟨_, _, if_pos q⟩
      · exact .inl (at2 b q)
    · by_cases q : b = a
      · subst q
        rw [at1] at z
        cases z
        exact ⟨ha, by rw [List.length_map]; exact hl, vs, _, rv, ha⟩
      · rw [at2 b q] at z
        cases z
    · by_cases q : b = a
      · exact ⟨q, hk⟩
      · exact absurd (at2 b q) z
end Mp

set_option Elab.async false
set_option linter.all false
set_option autoImplicit false
set_option maxRecDepth 100000
set_option maxHeartbeats 4000000
namespace Mp
open PySem PySem.Spec L2
/-! ### the own exception classes of a law, read off the head's heap -/
/-- a class: its name, its built-in base, its fields, the names of its mro that are asked for, its __init__ in the row, keyword calls -/
structure XD where
  name : Str
  base : Nat
  fs : List Str
  mro : List Str
  st : Stmt
  kb : List (List Str × List Nat) := []
def bsB : Nat → String
  | 0 => "ValueError" | 1 => "RuntimeError" | 2 => "LookupError" | _ => "OverflowError"
def bsN : Nat → String
  | 0 => "ValueError.__new__" | 1 => "RuntimeError.__new__" | 2 => "LookupError.__new__" | _ => "OverflowError.__new__"
def bsI : Nat → String
  | 0 => "ValueError.__init__" | 1 => "RuntimeError.__init__" | 2 => "LookupError.__init__" | _ => "OverflowError.__init__"
def bsM : Nat → List Value
  | 0 => [.type "ValueError", .type "Exception", .type "BaseException", .type "object"] | 1 => [.type "RuntimeError", .type "Exception", .type "BaseException", .type "object"]
  | 2 => [.type "LookupError", .type "Exception", .type "BaseException", .type "object"] | _ => [.type "OverflowError", .type "ArithmeticError", .type "Exception", .type "BaseException", .type "object"]
theorem bs_ok : ∀ n, XBase (bsB n) (bsN n) (bsI n) (bsM n)
  | 0 => xb_ValueError
  | 1 => xb_RuntimeError
  | 2 => xb_LookupError
  | _ + 3 => xb_OverflowError
def XD.qual (d : XD) : Str := d.name ++ (".__init__" : Str)
/-- the __init__ as it stands -/
abbrev XV : Type := Option (Str × Str × Arguments × FuncBody × Scope × Addr × List Str × Value × Addr)
def XD.fI (K : PySem.W.Frag) (d : XD) : Addr := He.ma K (He.ga K d.name) "__init__"
def XD.obs (K : PySem.W.Frag) (d : XD) : XV := match K.lookup (d.fI K) with
  | some ⟨_, _, .func fd, _⟩ => some (fd.name, fd.qualname, fd.params, fd.body, fd.scope, fd.globals, fd.closure.map (·.1), fd.defaults, fd.builtins)
  | _ => none
def XD.val (d : XD) : XV := some ("__init__", d.qual, defArgs d.st, .stmts (defBody d.st), defScope d.st, mainGlobals, [("__class__" : Str)], .none, builtinsNs)
/-- what is looked at -/
def cellB (K : PySem.W.Frag) (C : Addr) (cc : Addr) : Bool := match K.lookup cc with
  | some ⟨_, _, .cell (some (.ref D)), _⟩ => decide (D = C)
  | _ => false
def cloB (K : PySem.W.Frag) (C : Addr) : List (Str × Addr) → Bool
  | [(_, cc)] => cellB K C cc
  | _ => false
def fileB (file : Str) : Option Value → Bool
  | some (.str f _) => file == f
  | _ => false
theorem fileB_ok {file : Str} {o : Option Value} (h : fileB file o = true) : ∃ f t, o = some (.str f t) ∧ (file == f) = true := by
  unfold fileB at h
  split at h
  · exact ⟨_, _, rfl, h⟩
  · cases h
def codeB (K : PySem.W.Frag) (file q : Str) (cd : Value) : Bool := PySem.W.codeIn K cd q && (match cd with
  | .ref c => (match K.lookup c with
    | some ⟨_, _, .fields vs, _⟩ => fileB file vs[2]?
    | _ => false)
  | _ => false)
def eqV' (a b : Option Value) : Bool := decide (a = b)
def XD.fnB (K : PySem.W.Frag) (file : Str) (d : XD) : Bool := match K.lookup (d.fI K) with
  | some ⟨_, _, .func fd, _⟩ => codeB K file d.qual fd.code && cloB K (He.ga K d.name) fd.closure
  | _ => false
def rdB (K : PySem.W.Frag) (C : Addr) : Bool := He.eqO (PySem.W.findIn K (.ref C) "__getattribute__") (some (some (.builtin "BaseException.__getattribute__"))) && (He.eqO (PySem.W.findIn K (.ref C) "__getattr__") (some none) && (decide (PySem.W.subIn K (.ref C) (.type "BaseException") = some true) && (PySem.W.hasDictIn K C && (He.eqO (PySem.W.findIn K (.ref C) "__class__") (some (some (.builtin "object.__class__"))) && (He.eqO (PySem.W.specialIn K (.builtin "object.__class__") "__get__") (some (some (.builtin "getset_descriptor.__get__"))) && (decide (PySem.W.takesIn K (.builtin "object.__class__") = some true) && decide (PySem.W.mroIn K C (.type "object") = some true)))))))
theorem rdB_ok {K : PySem.W.Frag} {C : Addr} (h : rdB K C = true) : XRd K C := by
  unfold rdB at h
  simp only [Bool.and_eq_true, decide_eq_true_eq] at h
  obtain ⟨h1, h2, h3, h4, h5, h6, h7, h8⟩ := h
  exact ⟨He.eqO_ok h1, He.eqO_ok h2, h3, h4, He.eqO_ok h5, He.eqO_ok h6, h7, h8⟩
def XD.clB (K : PySem.W.Frag) (d : XD) : Bool :=
  PySem.W.excInitIn K (He.ga K d.name) (bsM d.base) (bsN d.base) && (He.eqO (PySem.W.findIn K (.ref (He.ga K d.name)) "__setattr__") (some (some (.builtin "object.__setattr__"))) && (PySem.W.excOver K (He.ga K d.name) (bsM d.base) && (PySem.W.hasDictIn K (He.ga K d.name) &&
  (decide (PySem.W.subIn K (.ref (He.ga K d.name)) (.type (bsB d.base)) = some true) && (decide (PySem.W.subIn K (.ref (He.ga K d.name)) (.type "BaseException") = some true) && (decide (PySem.W.typeIn K (.ref (He.ga K d.name)) = some (.type "type")) && (PySem.W.keepIn K (.ref (He.ga K d.name)) &&
  ((d.fs.all fun f => He.eqO (PySem.W.findIn K (.ref (He.ga K d.name)) f) (some none)) && (He.eqO (PySem.W.findIn K (.ref (He.ga K d.name)) "__init__") (some (some (.ref (d.fI K)))) && (PySem.W.isFn K (.ref (d.fI K)) &&
  (He.eqO (PySem.W.ks_superIn K (He.ga K d.name) (He.ga K d.name) "__init__") (some (some (.builtin (bsI d.base)))) && rdB K (He.ga K d.name))))))))))))
/-- the names that isinstance may ask for -/
def xval (K : PySem.W.Frag) (oc : List Str) (x : Str) : Option Value := if x ∈ oc then some (.ref (He.ga K x)) else match bootBuiltins x with
  | some (.type n) => some (.type n)
  | _ => none
def XD.isB (K : PySem.W.Frag) (oc kx : List Str) (d : XD) : Bool := kx.all fun x => match xval K oc x with
  | some v => decide (PySem.W.kitOne K (.ref (He.ga K d.name)) v = some (decide (x ∈ d.mro)))
  | none => false
/-- what the printer shows of a class -/
structure XDok (d : XD) : Prop where
  body : xbody d.fs (defBody d.st) = true
  par : ∃ ar, ((defArgs d.st).posonlyargs ++ (defArgs d.st).args).head? = some ar ∧ ar.arg = "self"
  nd : (("self" : Str) :: d.fs).Nodup
  dbg : ∀ f ∈ d.fs, (f == ("__debug__" : Str)) = false
  len : d.fs.length ≤ 50
  ks : (defScope d.st).names.lookup ("super" : Str) = some .globalImplicit
  kc : (defScope d.st).names.lookup ("__class__" : Str) = some .free
  ka : (defScope d.st).names.lookup ("self" : Str) = some .local
  kf : ∀ f ∈ d.fs, (defScope d.st).names.lookup f = some .local
  kind : (defScope d.st).kind = .function
  cell : ∀ x ∈ (defScope d.st).names, x.2 ≠ .cell
  co : (defScope d.st).isCoroutine = false
  gen : (defScope d.st).isGenerator = false
  bd : ∀ (kV doc pm : Value) (an : Option Addr) (cdv ct : Value) (cc : Addr) (us : List Value), us.length = d.fs.length + 1 → bindArgs (PySem.W.ksFn "__init__" d.qual (defArgs d.st) (defBody d.st) (defScope d.st) .none kV doc pm an cdv ct cc) ⟨us, []⟩ = pure ((("self" : Str) :: d.fs).zip us)
  kb : ∀ e ∈ d.kb, e.2.length = d.fs.length ∧ ∀ (kV doc pm : Value) (an : Option Addr) (cdv ct : Value) (cc : Addr) (v : Value) (ws : List Value), ws.length = e.1.length → bindArgs (PySem.W.ksFn "__init__" d.qual (defArgs d.st) (defBody d.st) (defScope d.st) .none kV doc pm an cdv ct cc) ⟨[v], e.1.zip ws⟩ = pure ((("self" : Str) :: d.fs).zip (v :: e.2.map fun i => ws.getD i .none))
section
variable {K : PySem.W.Frag} {P : Program} {d : XD} {file : Str}
theorem xd_fn (e : d.obs K = d.val) (c : d.fnB K file = true) : ∃ oc od osl kV doc pm an cda ct cc, K.lookup (d.fI K) = some ⟨oc, od, .func (PySem.W.ksFn "__init__" d.qual (defArgs d.st) (defBody d.st) (defScope d.st) .none kV doc pm an (.ref cda) ct cc), osl⟩ ∧ codeB K file d.qual (.ref cda) = true ∧ cellB K (He.ga K d.name) cc = true := by
  unfold XD.obs at e
  unfold XD.fnB at c
  cases q : K.lookup (d.fI K) with
  | none => rw [q] at c; cases c
  | some o =>
    obtain ⟨oc, od, dt, osl⟩ := o
    rw [q] at c e
    cases dt with
    | func fd =>
      obtain ⟨n1, n2, n3, n4, n5, n6, n7, n8, n9, n10, n11, n12, n13, n14, n15⟩ := fd
      have e2 : (some (n1, n2, n3, n4, n5, n6, n7.map (·.1), n8, n15) : XV) = some (("__init__" : Str), d.qual, defArgs d.st, FuncBody.stmts (defBody d.st), defScope d.st, mainGlobals, [("__class__" : Str)], Value.none, builtinsNs) := e
      simp only [Option.some.injEq, Prod.mk.injEq] at e2
      obtain ⟨h1, h2, h3, h4, h5, h6, h7, h8, h9⟩ := e2
      subst h1 h2 h3 h4 h5 h6 h8 h9
      have c2 : (codeB K file d.qual n13 && cloB K (He.ga K d.name) n7) = true := c
      have c3 := Bool.and_eq_true_iff.mp c2
      cases n7 with
      | nil => cases c3.2
      | cons p r =>
        obtain ⟨nm, cc⟩ := p
        cases r with
        | cons _ _ => cases c3.2
        | nil =>
          have h7 : [nm] = [("__class__" : Str)] := h7
          cases h7
          have c4 := c3.1
          unfold codeB at c4
          cases n13 with
          | ref cda => exact ⟨oc, od, osl, n9, n10, n11, n12, cda, n14, cc, rfl, c3.1, c3.2⟩
          | _ => rw [Bool.and_false] at c4; cases c4
    | _ => cases c
theorem xd_ok {mg : Str → Option Value} {M : Mdl} (O : XDok d) (e : d.obs K = d.val) (c1 : d.fnB K file = true) (c2 : d.clB K = true) (hst : PySem.W.nsIn K cStatics "thirdparty.any" = some none) (hfile : (P.main.file : Str) = file) (htop : (P.main.scope.names.lookup ("super" : Str)).isSome = false) (hm : mg d.name = some (.ref (He.ga K d.name))) (hs : mg "super" = none) (hk : ∀ ks perm, M.xk d.name ks = some perm → (ks, perm) ∈ d.kb) : XcIs P K mg M d.name d.fs := by
  obtain ⟨oc, od, osl, kV, doc, pm, an, cda, ct, cc, lk, cb, ce⟩ := xd_fn e c1
  unfold XD.clB at c2
  simp only [Bool.and_eq_true, decide_eq_true_eq] at c2
  obtain ⟨k1, k2, k3, k4, k5, k6, k7, k8, k9, k10, k11, k12, k13⟩ := c2
  unfold codeB at cb
  have cb := Bool.and_eq_true_iff.mp cb
  have code : ∃ ccl cdd vs ccs file' tf, K.lookup cda = some ⟨ccl, cdd, .fields vs, ccs⟩ ∧ vs[2]? = some (.str file' tf) ∧ ((P.main.file : Str) == file') = true := by
    have z := cb.2
    dsimp only at z
    split at z
    · rename_i o1 o2 vs o4 q
      obtain ⟨f, t, q2, q3⟩ := fileB_ok z
      exact ⟨o1, o2, vs, o4, f, t, q, q2, by rw [hfile]; exact q3⟩
    · cases z
  have cell : ∃ cl cld csl, K.lookup cc = some ⟨cl, cld, .cell (some (.ref (He.ga K d.name))), csl⟩ := by
    unfold cellB at ce
    split at ce
    · rename_i o1 o2 D o4 q
      have := of_decide_eq_true ce
      subst this
      exact ⟨o1, o2, o4, q⟩
    · cases ce
  refine ⟨⟨bsB d.base, bsN d.base, bsI d.base, bsM d.base, d.kb, ⟨bs_ok d.base, ⟨He.eqO_ok k2, k3, k4⟩, k1, k5, k6, k7, k8, O.len, fun f hf => ⟨He.eqO_ok (List.all_eq_true.mp k9 f hf), O.dbg f hf⟩,
    d.fI K, cc, cda, "__init__", d.qual, defArgs d.st, defBody d.st, defScope d.st, .none, kV, doc, pm, an, ct, He.eqO_ok k10, k11, ⟨⟨oc, od, osl, lk⟩, code, cell, O.par, hst, He.eqO_ok k12, htop, O.ks, O.kc, O.ka, O.kind⟩, cb.1, xbody_ok O.body, O.kf, O.cell, O.co, O.gen,
    fun s us hl => .of_eq (O.bd kV doc pm an _ ct cc us hl), fun p hp => ⟨(O.kb p hp).1, fun s v ws hl => .of_eq ((O.kb p hp).2 kV doc pm an _ ct cc v ws hl)⟩⟩, hk⟩, hm, hs, O.nd, rdB_ok k13⟩
end
end Mp

set_option Elab.async false
set_option linter.all false
set_option autoImplicit false
set_option maxRecDepth 100000
set_option maxHeartbeats 4000000
namespace Mp
open PySem PySem.Spec L2
/-! ### a law's tables -/
/-- a def: its names (parameters first, n of them), its body in the little language, its statement of the row, keyword calls (names, order) -/
structure DD where
  name : Str
  N : List Str
  n : Nat
  body : S
  st : Stmt
  kb : List (List Str × List Nat) := []
structure Lw where
  T : List DD
  gl : List (Str × D)
  fr : List Str
  dt : List (Str × List (Str × D)) := []
  xt : List XD := []
  oc : List Str := []
  kx : List Str := []
  file : Str := ""
def findX (f : Str) : List XD → Option XD
  | [] => none
  | d :: r => if d.name = f then some d else findX f r
theorem findX_mem {f : Str} : ∀ {T : List XD} {d : XD}, findX f T = some d → d ∈ T ∧ d.name = f
  | e :: r, d, h => by
    unfold findX at h
    split at h
    · cases h; exact ⟨List.mem_cons_self .., by assumption⟩
    · exact ⟨List.mem_cons_of_mem _ (findX_mem h).1, (findX_mem h).2⟩
def findD (f : Str) : List DD → Option DD
  | [] => none
  | d :: r => if d.name = f then some d else findD f r
theorem findD_mem {f : Str} : ∀ {T : List DD} {d : DD}, findD f T = some d → d ∈ T ∧ d.name = f
  | e :: r, d, h => by
    unfold findD at h
    split at h
    · cases h; exact ⟨List.mem_cons_self .., by assumption⟩
    · exact ⟨List.mem_cons_of_mem _ (findD_mem h).1, (findD_mem h).2⟩
theorem look_mem {α β : Type} [DecidableEq α] {x : α} : ∀ {l : List (α × β)} {z : β}, look x l = some z → (x, z) ∈ l
  | (y, u) :: r, z, h => by
    unfold look at h
    split at h
    · cases h; rename_i e; rw [e]; exact List.mem_cons_self ..
    · exact List.mem_cons_of_mem _ (look_mem h)
def fdOf (K : PySem.W.Frag) (a : Addr) : FuncData := match K.lookup a with
  | some ⟨_, _, .func fd, _⟩ => fd
  | _ => PySem.W.fnOf "" "" ⟨[], [], none, [], [], none, []⟩ [] ⟨.function, [], false, false, []⟩ .none .none .none .none none .none .none
def DD.ps (d : DD) : List Str := d.N.take d.n
def Lw.mdl (L : Lw) (K : PySem.W.Frag) (Φ : Str → List D → AH → R D) (k : Nat) : Mdl where
  Φ := Φ
  tb := fun f => (findD f L.T).map fun d => (He.ga K f, fdOf K (He.ga K f), d.ps)
  kt := fun f ks => match findD f L.T with
    | some d => look ks d.kb
    | none => none
  gl := fun x => look x L.gl
  fr := fun x => decide (x ∈ L.fr)
  k := k
  dt := fun x => look x L.dt
  xc := fun c => (findX c L.xt).map (·.fs)
  xk := fun c ks => match findX c L.xt with
    | some d => look ks d.kb
    | none => none
  xs := fun c x => match findX c L.xt with
    | some d => if x ∈ L.kx then some (decide (x ∈ d.mro)) else none
    | none => none
  oc := fun x => decide (x ∈ L.oc)
def Lw.phi (L : Lw) (K : PySem.W.Frag) : Nat → Str → List D → AH → R D
  | 0 => fun _ _ _ => .bad
  | k + 1 => fun f ds h => match findD f L.T with
    | some d => fnEv (L.mdl K (L.phi K k) k) d.N d.n d.body ds h
    | none => .bad
def Lw.m (L : Lw) (K : PySem.W.Frag) (k : Nat) : Mdl := L.mdl K (L.phi K k) k
/-! ### checks -/
def scopeB (N ps : List Str) (sc : Scope) : Bool := decide (sc.kind = .function) && (!sc.isCoroutine && (!sc.isGenerator && (decide N.Nodup && (decide (N.take ps.length = ps) && ((ps.all fun x => locB sc x) && sc.names.all fun y => decide (y.2 ≠ .free))))))
theorem scopeB_ok {N ps : List Str} {sc : Scope} (h : scopeB N ps sc = true) : FnScope N ps sc := by
  unfold scopeB at h
  simp only [Bool.and_eq_true, decide_eq_true_eq, Bool.not_eq_true', List.all_eq_true] at h
  obtain ⟨h1, h2, h3, h4, h5, h6, h7⟩ := h
  refine ⟨h1, h2, h3, h4, h5, fun x hx => ?_, fun y hy => h7 y hy⟩
  have q := h6 x hx
  unfold locB at q
  split at q
  · exact .inl (by assumption)
  · exact .inr (by assumption)
  · cases q
/-- what the printer shows of a def -/
structure DDok (d : DD) : Prop where
  sc : scopeB d.N d.ps (defScope d.st) = true
  n : d.ps.length = d.n
  bd : ∀ (kV doc pm : Value) (an : Option Addr) (cdv ct : Value) (us : List Value), us.length = d.n → bindArgs (PySem.W.fnOf d.name d.name (defArgs d.st) (defBody d.st) (defScope d.st) .none kV doc pm an cdv ct) ⟨us, []⟩ = pure (d.ps.zip us)
  kb : ∀ e ∈ d.kb, e.2.length = d.n ∧ ∀ (kV doc pm : Value) (an : Option Addr) (cdv ct : Value) (us : List Value), us.length = e.1.length → bindArgs (PySem.W.fnOf d.name d.name (defArgs d.st) (defBody d.st) (defScope d.st) .none kV doc pm an cdv ct) ⟨[], e.1.zip us⟩ = pure (d.ps.zip (e.2.map fun i => us.getD i .none))
/-! a value of the module -/
mutual
def relD (K : PySem.W.Frag) : D → Value → Bool
  | .non, .none => true
  | .bl b, .bool c => b == c
  | .int i, .int j _ => decide (i = j)
  | .str x, .str y _ => decide (x = y)
  | .tup xs, .ref a => (match K.lookup a with
    | some ⟨.type c, _, .seq its _, _⟩ => decide (c = "tuple") && (decide (its.size ≤ sizeLine) && relDs K xs its.toList)
    | _ => false)
  | .scr xs, .ref a => (match K.lookup a with
    | some ⟨.type c, none, .seq its _, _⟩ => decide (c = "list") && (decide (its.size ≤ sizeLine) && relDs K xs its.toList)
    | _ => false)
  | _, _ => false
def relDs (K : PySem.W.Frag) : List D → List Value → Bool
  | [], [] => true
  | x :: xs, u :: us => relD K x u && relDs K xs us
  | _, _ => false
end
mutual
theorem relD_ok (K : PySem.W.Frag) : ∀ (d : D) (u : Value), relD K d u = true → ∃ v, RelV v u ∧ ∀ θ H, Rep K θ H d v
  | .non, u, h => by
    cases u <;> first | exact ⟨.non, rfl, fun _ _ => .non⟩ | cases h
  | .bl b, u, h => by
    cases u <;> first | cases h | skip
    rename_i c
    have e : b = c := eq_of_beq (show (b == c) = true from h)
    subst e
    exact ⟨.bl b, rfl, fun _ _ => .bl b⟩
  | .int i, u, h => by
    cases u <;> first | cases h | skip
    rename_i j t
    have e : i = j := of_decide_eq_true (show decide (i = j) = true from h)
    subst e
    exact ⟨.int i, ⟨t, rfl⟩, fun _ _ => .int i⟩
  | .str x, u, h => by
    cases u <;> first | cases h | skip
    rename_i y t
    have e : x = y := of_decide_eq_true (show decide (x = y) = true from h)
    subst e
    exact ⟨.str x, ⟨t, rfl⟩, fun _ _ => .str x⟩
  | .tup xs, u, h => by
    cases u <;> first | cases h | skip
    rename_i a
    have h1 : (match K.lookup a with
      | some ⟨.type c, _, .seq its _, _⟩ => decide (c = "tuple") && (decide (its.size ≤ sizeLine) && relDs K xs its.toList)
      | _ => false) = true := h
    split at h1
    · rename_i c od its n sl q
      simp only [Bool.and_eq_true, decide_eq_true_eq] at h1
      obtain ⟨rfl, h2, h3⟩ := h1
      obtain ⟨vs, rv, rp⟩ := relDs_ok K xs its.toList h3
      exact ⟨.ref a, rfl, fun θ H => .tup (.inr ⟨_, its, _, q, rfl, rfl, h2, rv⟩) (rp θ H)⟩
    · cases h1
  | .scr xs, u, h => by
    cases u <;> first | cases h | skip
    rename_i a
    have h1 : (match K.lookup a with
      | some ⟨.type c, none, .seq its _, _⟩ => decide (c = "list") && (decide (its.size ≤ sizeLine) && relDs K xs its.toList)
      | _ => false) = true := h
    split at h1
    · rename_i c its n sl q
      simp only [Bool.and_eq_true, decide_eq_true_eq] at h1
      obtain ⟨rfl, h2, h3⟩ := h1
      obtain ⟨vs, rv, rp⟩ := relDs_ok K xs its.toList h3
      exact ⟨.ref a, rfl, fun θ H => .scr (.inr ⟨_, its, _, q, rfl, rfl, rfl, h2, rv⟩) (rp θ H)⟩
    · cases h1
  | .lst _, u, h => by cases u <;> cases h
  | .dic _ _, u, h => by cases u <;> cases h
  | .ref _, u, h => by cases u <;> cases h
  | .ty _, u, h => by cases u <;> cases h
  | .glo _, u, h => by cases u <;> cases h
  | .exc _ _ _, u, h => by cases u <;> cases h
theorem relDs_ok (K : PySem.W.Frag) : ∀ (ds : List D) (us : List Value), relDs K ds us = true → ∃ vs, Vals vs us ∧ ∀ θ H, Reps K θ H ds vs
  | [], [], _ => ⟨[], .nil, fun _ _ => .nil⟩
  | [], _ :: _, h => by cases h
  | _ :: _, [], h => by cases h
  | x :: xs, u :: us, h => by
    have h1 := Bool.and_eq_true_iff.mp (show (relD K x u && relDs K xs us) = true from h)
    obtain ⟨v, r1, r2⟩ := relD_ok K x u h1.1
    obtain ⟨vs, q1, q2⟩ := relDs_ok K xs us h1.2
    exact ⟨v :: vs, .cons r1 q1, fun θ H => .cons (r2 θ H) (q2 θ H)⟩
end
def glOk (K : PySem.W.Frag) (p : Str × D) : Bool := match PySem.W.nsIn K mainGlobals p.1 with
  | some (some u) => relD K p.2 u
  | _ => false
def sysB (K : PySem.W.Frag) : Bool := match K.lookup sysModules with
  | some ⟨.type c, _, _, _⟩ => decide (c = "dict")
  | _ => false
theorem sysB_ok {K : PySem.W.Frag} (h : sysB K = true) : SysD K := by
  unfold sysB at h
  split at h
  · rename_i c _ _ _ q
    have e := of_decide_eq_true h
    subst e
    exact ⟨_, q, rfl⟩
  · cases h
/-! a table of the module -/
def dtB (K : PySem.W.Frag) (p : Str × List (Str × D)) : Bool := p.2.all fun q => match PySem.W.nsIn K (He.ga K p.1) q.1 with
  | some (some u) => relD K q.2 u
  | _ => false
theorem look_none {β : Type} {z : Str} : ∀ {t : List (Str × β)}, look z t = none → z ∉ t.map (·.1)
  | [], _, h => by cases h
  | (y, v) :: r, e, h => by
    unfold look at e
    split at e
    · cases e
    · rename_i ne
      rcases List.mem_cons.mp h with q | q
      · exact ne q.symm
      · exact look_none e q
theorem miss_of {P : Params} {z : Str} : ∀ {l : List DictEntry} {ks : List Str}, l.map He.keyOf = He.keysIn P ks → z ∉ ks → l.find? (·.key.isStr z) = none ∧ l.any (·.refKey) = false
  | [], _, _, _ => ⟨rfl, rfl⟩
  | e :: r, [], h, _ => by cases h
  | e :: r, k :: ks, h, hz => by
    have h1 : He.keyOf e :: r.map He.keyOf = some (k, PyData.keyHash P k) :: He.keysIn P ks := h
    injection h1 with h2 h3
    have ⟨i1, i2⟩ := miss_of h3 (fun q => hz (List.mem_cons_of_mem _ q))
    unfold He.keyOf at h2
    split at h2
    · rename_i x t q
      obtain ⟨rfl, _⟩ := Prod.mk.inj (Option.some.inj h2)
      have ne : x ≠ z := fun q => hz (by rw [q]; exact List.mem_cons_self)
      have b : e.key.isStr z = false := by
        rw [q]
        show (x == z) = false
        exact beq_false_of_ne ne
      refine ⟨?_, ?_⟩
      · rw [List.find?_cons, b]; exact i1
      · rw [List.any_cons, i2]
        unfold DictEntry.refKey
        rw [q]
        rfl
    · cases h2
theorem dt_ok {K : PySem.W.Frag} {w : World} {mg : Str → Option Value} {x : Str} {t : List (Str × D)} (hm : mg x = some (.ref (He.ga K x))) (hd : He.dicW K (He.ga K x) = some (He.keysIn w.params (t.map (·.1)))) (hb : dtB K (x, t) = true) : DtIs w K mg x t := by
  obtain ⟨es, n, kd⟩ := He.dicW_ok hd
  refine ⟨He.ga K x, es, n, hm, kd, fun z => ?_⟩
  cases q : look z t with
  | some d =>
    have h := List.all_eq_true.mp hb _ (look_mem q)
    have h : (match PySem.W.nsIn K (He.ga K x) z with
      | some (some u) => relD K d u
      | _ => false) = true := h
    split at h
    · rename_i u e
      obtain ⟨v, r1, r2⟩ := relD_ok K d u h
      exact ⟨u, v, e, r1, r2⟩
    · cases h
  | none =>
    have hz := look_none q
    show PySem.W.nsIn K (He.ga K x) z = some none
    unfold He.dicW at hd
    rw [kd.at_] at hd
    have hd : (match decide (("dict" : String) = "dict") && ((#[] : Array (Option Value)).isEmpty && !(He.ga K x == sysModules)) with
      | true => some (es.toList.map He.keyOf)
      | false => none) = some (He.keysIn w.params (t.map (·.1))) := hd
    split at hd
    · obtain ⟨m1, m2⟩ := miss_of (Option.some.inj hd) hz
      unfold PySem.W.nsIn
      rw [kd.at_]
      show (match es.toList.find? (·.key.isStr z) with
        | some e => some (some e.val)
        | none => if es.toList.any (·.refKey) then none else some none) = some none
      rw [m1]
      show (if es.toList.any (·.refKey) then none else some none) = some none
      rw [m2]
      rfl
    · cases hd
/-! ### the hook -/
def DD.def_ (d : DD) : He.DefD := ⟨(d.name, none), d.name, d.name, defArgs d.st, defBody d.st, defScope d.st, [], []⟩
def Lw.fa (L : Lw) : List He.Fa := (L.T.map fun d => He.Fa.glo d.name) ++ ((L.fr.map fun x => He.Fa.free x) ++ ((L.dt.map fun p => He.Fa.glo p.1) ++ L.oc.map fun x => He.Fa.glo x))
def Lw.fn (L : Lw) : List He.DefD := L.T.map DD.def_
abbrev Al : Type := Bool × He.AlD × List (Option (List (Option (Str × Int)))) × List XV
def Lw.xB (L : Lw) (K : PySem.W.Frag) : Bool := L.xt.isEmpty || (He.eqO (PySem.W.nsIn K cStatics "thirdparty.any") (some none) && (decide (("super" : Str) ∈ L.fr) && ((L.xt.all fun d => decide (d.name ∈ L.oc) && (d.fnB K L.file && (d.clB K && d.isB K L.oc L.kx))) && L.kx.all fun x => decide (x ∈ L.oc) || decide (x ∈ L.fr))))
def Lw.obsK (L : Lw) (K : PySem.W.Frag) : Al := ((sysB K && ((L.gl.all fun p => glOk K p) && L.dt.all fun p => dtB K p)) && L.xB K, He.obsD L.fa L.fn K, L.dt.map fun p => He.dicW K (He.ga K p.1), L.xt.map fun d => d.obs K)
/-- what an object leads to, as far as it is looked at -/
def refsX (o : Obj) : List Addr := match o.data with
  | .seq its _ => its.toList.flatMap He.refV
  | .dict es _ => es.toList.flatMap fun e => He.refV e.val
  | .func fd => He.refV fd.code ++ He.refV fd.defaults ++ fd.closure.map (·.2)
  | .cls cd => [cd.ns]
  | _ => []
def grow1 (g : Addr → Option Obj) (as : List Addr) : List Addr := as.flatMap fun a => match g a with
  | some o => refsX o
  | none => []
def asX (g : Addr → Option Obj) : List Addr := let l1 := grow1 g [mainGlobals]; let l2 := grow1 g l1; let l3 := grow1 g l2; sysModules :: cStatics :: mainGlobals :: (l1 ++ (l2 ++ (l3 ++ grow1 g l3)))
def Lw.as (L : Lw) (n : Nat) (g : Addr → Option Obj) : List Addr := match L.xt with
  | [] => sysModules :: He.asD g n
  | _ => asX g
def Lw.obsG (L : Lw) (n : Nat) (g : Addr → Option Obj) : Al := L.obsK (He.frG g (L.as n g))
def Lw.val (L : Lw) (w : World) : Al := (true, He.valD L.fn, L.dt.map fun p => some (He.keysIn w.params (p.2.map (·.1))), L.xt.map XD.val)
def Lw.says (L : Lw) (w : World) (K : PySem.W.Frag) : Prop := L.obsK K = L.val w
def Lw.hook (L : Lw) (n : Nat) : PySem.W.Hook where
  α := Al
  obs := fun s => L.obsG n s.heap.get?
  val := fun w => L.val w
  says := fun w h => ∃ K : PySem.W.Frag, K.In h ∧ L.says w K
  of := fun _ _ e => ⟨_, He.frG_in, e⟩
  keeps := fun _ _ _ ⟨K, hK, c⟩ k => ⟨K, PySem.W.Frag.In.keeps hK k, c⟩
def Lw.ob (L : Lw) (n : Nat) (s : PySem.W.SharedT) : Al := L.obsG n (HandSHeadRun.getT s)
theorem Lw.ob_eq (L : Lw) (n : Nat) (s : PySem.W.SharedT) : L.ob n s = (L.hook n).obs s.abs := by
  unfold Lw.ob
  have e : HandSHeadRun.getT s = s.abs.heap.get? := funext (HandSHeadRun.getT_eq s)
  rw [e]
  rfl
/-! the run's equation in three parts: each runs the head anew, and none has to hold all -/
def Lw.frK (L : Lw) (n : Nat) (s : PySem.W.SharedT) : PySem.W.Frag := He.frG (HandSHeadRun.getT s) (L.as n (HandSHeadRun.getT s))
def Lw.obB (L : Lw) (K : PySem.W.Frag) : Al := (sysB K && ((L.gl.all fun p => glOk K p) && L.dt.all fun p => dtB K p), He.obsD L.fa L.fn K, L.dt.map fun p => He.dicW K (He.ga K p.1), L.xt.map fun d => d.obs K)
section
open HandSHeadRun PySem.W
variable (r : OpenRow) (q : Program) (M : Nat) (loose : List PySem.Str) (w : World)
def Run1 : Prop := ∀ os : OsState, (endF (stepQ (denQ tabQ) r.prog w) M r.prog w os).map (fun s => (looksF r.prog (boot_heap w.params) s.abs, seenQ q loose (importedModules r.prog.main.body) (fun s => xlAt q [] s && recOk r.toRowW.records s) s.abs)) = some (true, openGood q loose)
def Lw.Run2 (L : Lw) (n : Nat) : Prop := ∀ os : OsState, (endF (stepQ (denQ tabQ) r.prog w) M r.prog w os).map (fun s => L.xB (L.frK n s)) = some true
def Lw.Run3 (L : Lw) (n : Nat) : Prop := ∀ os : OsState, (endF (stepQ (denQ tabQ) r.prog w) M r.prog w os).map (fun s => L.obB (L.frK n s)) = some (L.val w)
theorem Lw.run3 {r : OpenRow} {q : Program} {M : Nat} {loose : List PySem.Str} {w : World} (L : Lw) {n : Nat} (h1 : Run1 r q M loose w) (h2 : L.Run2 r M w n) (h3 : L.Run3 r M w n) : RunEq r q (L.hook n) (L.ob n) M loose w := by
  intro os
  have e1 := h1 os
  have e2 := h2 os
  have e3 := h3 os
  cases e : endF (stepQ (denQ tabQ) r.prog w) M r.prog w os with
  | none => rw [e] at e1; cases e1
  | some s =>
    rw [e] at e1 e2 e3
    have f1 := Option.some.inj e1
    have f2 : L.xB (L.frK n s) = true := Option.some.inj e2
    have f3 : L.obB (L.frK n s) = L.val w := Option.some.inj e3
    have f4 : L.ob n s = L.val w := by
      show (((L.obB (L.frK n s)).1 && L.xB (L.frK n s), (L.obB (L.frK n s)).2) : Al) = L.val w
      rw [f2, f3, Bool.and_true]
    generalize hA : looksF r.prog (boot_heap w.params) s.abs = A at f1 ⊢
    generalize hB : seenQ q loose (importedModules r.prog.main.body) (fun s => xlAt q [] s && recOk r.toRowW.records s) s.abs = B at f1 ⊢
    have f1' : A = true ∧ B = openGood q loose := by
      have z : (A, B) = (true, openGood q loose) := by rw [← hA, ← hB]; exact f1
      exact ⟨congrArg Prod.fst z, congrArg Prod.snd z⟩
    show some (looksF r.prog (boot_heap w.params) s.abs, seenQ q loose (importedModules r.prog.main.body) (fun s => xlAt q [] s && recOk r.toRowW.records s) s.abs, L.ob n s) = some (true, openGood q loose, L.val w)
    rw [hA, hB, f4, f1'.1, f1'.2]
end
/-! ### all defs, to every depth -/
theorem fdOf_eq {K : PySem.W.Frag} {a : Addr} {oc : Value} {od : Option Addr} {fd : FuncData} {osl : Array (Option Value)} (h : K.lookup a = some ⟨oc, od, .func fd, osl⟩) : fdOf K a = fd := by
  unfold fdOf
  rw [h]
theorem Lw.fun_ {L : Lw} {w : World} {K : PySem.W.Frag} (c : L.says w K) {d : DD} (hd : d ∈ L.T) : FunD K d.name d.name (defArgs d.st) (defBody d.st) (defScope d.st) [] [] (He.ga K d.name) (fdOf K (He.ga K d.name)) := by
  have c2 : He.SaysD L.fa L.fn K := congrArg (fun z : Al => z.2.1) c
  obtain ⟨i, hi⟩ := List.mem_iff_getElem?.mp hd
  obtain ⟨fd, F⟩ := c2.def_ i (d := d.def_) (by unfold Lw.fn; rw [List.getElem?_map, hi]; rfl)
  have F' : FunD K d.name d.name (defArgs d.st) (defBody d.st) (defScope d.st) [] [] (He.ga K d.name) fd := F
  obtain ⟨oc, od, dV, kV, doc, pm, an, cdv, ct, osl, e1, e2, _⟩ := F'.ex
  rw [fdOf_eq e2]
  exact F'
theorem Lw.fact {L : Lw} {w : World} {K : PySem.W.Frag} (c : L.says w K) {f : He.Fa} (hf : f ∈ L.fa) : f.ok K = true := by
  have c2 : He.SaysD L.fa L.fn K := congrArg (fun z : Al => z.2.1) c
  obtain ⟨i, hi⟩ := List.mem_iff_getElem?.mp hf
  exact c2.fact i hi
theorem Lw.ground {P : Program} {w : World} {K : PySem.W.Frag} {h base : Heap} {mg : Str → Option Value} (L : Lw) (X : K.In h) (G : h.Ns mainGlobals mg) (c : L.says w K) (xok : ∀ d ∈ L.xt, XDok d) (hP : L.xt = [] ∨ ((P.main.file : Str) = L.file ∧ (P.main.scope.names.lookup ("super" : Str)).isSome = false)) (ok : ∀ d ∈ L.T, DDok d) (chk : ∀ K k Φ, ∀ d ∈ L.T, chkB (L.mdl K Φ k) d.N d.body (defScope d.st) (defBody d.st) = true) :
    ∀ k, Ground P w K mg base (L.m K k) := by
  have c0 := Bool.and_eq_true_iff.mp (show ((sysB K && ((L.gl.all fun p => glOk K p) && L.dt.all fun p => dtB K p)) && L.xB K) = true from congrArg Prod.fst c)
  have c1 := Bool.and_eq_true_iff.mp c0.1
  have c5 : (L.xt.map fun d => d.obs K) = L.xt.map XD.val := congrArg (fun z : Al => z.2.2.2) c
  have mgo : ∀ x, x ∈ L.oc → mg x = some (.ref (He.ga K x)) := fun x hx => He.glo_ok X G (Lw.fact c (List.mem_append_right _ (List.mem_append_right _ (List.mem_append_right _ (List.mem_map.mpr ⟨x, hx, rfl⟩)))))
  have mgf : ∀ x, x ∈ L.fr → mg x = none := fun x hx => He.free_ok X G (Lw.fact c (List.mem_append_right _ (List.mem_append_left _ (List.mem_map.mpr ⟨x, hx, rfl⟩))))
  have XX : ∀ d ∈ L.xt, ∀ M : Mdl, (∀ ks perm, M.xk d.name ks = some perm → (ks, perm) ∈ d.kb) → XcIs P K mg M d.name d.fs ∧ d.isB K L.oc L.kx = true ∧ ∀ x ∈ L.kx, x ∈ L.oc ∨ x ∈ L.fr := by
    intro d hd M hk
    have ne : L.xt ≠ [] := fun z => by rw [z] at hd; cases hd
    have x1 := (Bool.or_eq_true_iff.mp c0.2).resolve_left (fun z => ne (List.isEmpty_iff.mp z))
    have x2 := Bool.and_eq_true_iff.mp x1
    have x3 := Bool.and_eq_true_iff.mp x2.2
    have x4 := Bool.and_eq_true_iff.mp x3.2
    have x5 := Bool.and_eq_true_iff.mp (List.all_eq_true.mp x4.1 d hd)
    have x6 := Bool.and_eq_true_iff.mp x5.2
    have x7 := Bool.and_eq_true_iff.mp x6.2
    obtain ⟨hf, ht⟩ := hP.resolve_left ne
    obtain ⟨i, hi⟩ := List.mem_iff_getElem?.mp hd
    have eo : d.obs K = d.val := by
      have e2 : (L.xt.map fun d => d.obs K)[i]? = (L.xt.map XD.val)[i]? := by rw [c5]
      rw [List.getElem?_map, List.getElem?_map, hi] at e2
      exact Option.some.inj e2
    refine ⟨xd_ok (xok d hd) eo x6.1 x7.1 (He.eqO_ok x2.1) hf ht (mgo _ (of_decide_eq_true x5.1)) (mgf _ (of_decide_eq_true x3.1)) hk, x7.2, fun x hx => ?_⟩
    exact (Bool.or_eq_true_iff.mp (List.all_eq_true.mp x4.2 x hx)).imp of_decide_eq_true of_decide_eq_true
  have c3 := Bool.and_eq_true_iff.mp c1.2
  have c4 : (L.dt.map fun p => He.dicW K (He.ga K p.1)) = L.dt.map fun p => some (He.keysIn w.params (p.2.map (·.1))) := congrArg (fun z : Al => z.2.2.1) c
  intro k
  induction k with
  | zero =>
    refine ⟨sysB_ok c1.1, ?glo, ?free, ?fns, ?dts, ?xcs, ?xss, ?ocs⟩
    case xcs =>
      intro cn fs e
      obtain ⟨d, e1, rfl⟩ := map_some (show (findX cn L.xt).map (·.fs) = some fs from e)
      obtain ⟨hd, rfl⟩ := findX_mem e1
      refine (XX d hd (L.m K 0) fun ks perm z => ?_).1
      have z : (match findX d.name L.xt with
        | some d => look ks d.kb
        | none => none) = some perm := z
      rw [e1] at z
      exact look_mem z
    case xss =>
      intro cn x b e
      have e0 : (match findX cn L.xt with
        | some d => if x ∈ L.kx then some (decide (x ∈ d.mro)) else none
        | none => none) = some b := e
      clear e
      cases e1 : findX cn L.xt with
      | none => rw [e1] at e0; cases e0
      | some d =>
        rw [e1] at e0
        obtain ⟨hd, rfl⟩ := findX_mem e1
        have e2 : (if x ∈ L.kx then some (decide (x ∈ d.mro)) else none) = some b := e0
        clear e0
        split at e2
        · rename_i hx
          cases e2
          obtain ⟨_, ib, ki⟩ := XX d hd { L.m K 0 with xk := fun _ _ => none } (fun _ _ z => by cases z)
          have q := List.all_eq_true.mp ib x hx
          unfold xval at q
          by_cases ho : x ∈ L.oc
          · rw [if_pos ho] at q
            exact .inl ⟨mgo x ho, of_decide_eq_true q⟩
          · rw [if_neg ho] at q
            have hf := (ki x hx).resolve_left ho
            cases z : bootBuiltins x with
            | none => rw [z] at q; cases q
            | some v =>
              rw [z] at q
              cases v with
              | type n => exact .inr ⟨n, mgf x hf, z, of_decide_eq_true q⟩
              | _ => cases q
        · cases e2
    case ocs =>
      intro x e
      exact mgo x (of_decide_eq_true e)
    case dts =>
      intro x t e
      have mem := look_mem (show look x L.dt = some t from e)
      refine dt_ok (He.glo_ok X G (Lw.fact c (List.mem_append_right _ (List.mem_append_right _ (List.mem_append_left _ (List.mem_map.mpr ⟨(x, t), mem, rfl⟩)))))) ?_ (List.all_eq_true.mp c3.2 _ mem)
      obtain ⟨i, hi⟩ := List.mem_iff_getElem?.mp mem
      have e2 : (L.dt.map fun p => He.dicW K (He.ga K p.1))[i]? = (L.dt.map fun p => some (He.keysIn w.params (p.2.map (·.1))))[i]? := by rw [c4]
      rw [List.getElem?_map, List.getElem?_map, hi] at e2
      exact Option.some.inj e2
    case glo =>
      intro x d e
      have q := List.all_eq_true.mp c3.1 _ (look_mem e)
      unfold glOk at q
      split at q
      · rename_i u z
        obtain ⟨v, r1, r2⟩ := relD_ok K d u q
        exact ⟨u, v, PySem.W.mg_of X G z, r1, r2⟩
      · cases q
    case free =>
      intro x e
      have e := of_decide_eq_true (show decide (x ∈ L.fr) = true from e)
      exact He.free_ok X G (Lw.fact c (List.mem_append_right _ (List.mem_append_left _ (List.mem_map.mpr ⟨x, e, rfl⟩))))
    case fns =>
      intro f a fd ps e
      obtain ⟨d, e1, e2⟩ := map_some (show (findD f L.T).map _ = some _ from e)
      obtain ⟨hd, rfl⟩ := findD_mem e1
      cases e2
      have F := Lw.fun_ c hd
      have O := ok d hd
      refine ⟨He.glo_ok X G (Lw.fact c (List.mem_append_left _ (List.mem_map.mpr ⟨d, hd, rfl⟩))), F.kp, F.bindsN fun kV doc pm an cdv ct us hl => O.bd kV doc pm an cdv ct us (hl.trans O.n), fun ds h z => absurd rfl z, ?_, ?_⟩
      · intro ks perm z
        have z : (match findD d.name L.T with
          | some d => look ks d.kb
          | none => none) = some perm := z
        rw [e1] at z
        obtain ⟨l, q⟩ := O.kb _ (look_mem z)
        refine ⟨l.trans O.n.symm, fun s ws hK hl => ?_⟩
        obtain ⟨oc, od, dV, kV, doc, pm, an, cdv, ct, osl, f1, f2, _, f4, _⟩ := F.ex
        rw [f1]
        rcases f4 with ⟨_, rfl⟩ | ⟨z, _⟩
        · exact .of_eq (q kV doc pm an cdv ct ws hl)
        · exact absurd rfl z
      · intro A outer s H args us vs θ h ds Q E _ _ _ _ _ _ _ a
        exact False.elim a
  | succ k ih =>
    refine ⟨ih.sys, ih.glo, ih.free, fun f a fd ps e => ?_, ih.dts, fun c fs e => (let z := ih.xcs c fs e; ⟨z.cls, z.mgc, z.sup, z.nd, z.rd⟩), ih.xss, ih.ocs⟩
    obtain ⟨I1, I2, I3, I4, I5, I6⟩ := ih.fns f a fd ps e
    obtain ⟨d, e1, e2⟩ := map_some (show (findD f L.T).map _ = some _ from e)
    obtain ⟨hd, rfl⟩ := findD_mem e1
    cases e2
    have O := ok d hd
    have eq : (L.m K (k + 1)).Φ d.name = fnEv (L.m K k) d.N d.ps.length d.body := by
      funext ds h
      show (match findD d.name L.T with
        | some d => fnEv (L.mdl K (L.phi K k) k) d.N d.n d.body ds h
        | none => .bad) = _
      rw [e1, O.n]
      rfl
    refine ⟨I1, I2, I3, fun ds h z => ?_, I5, ?_⟩
    · rw [eq] at z
      unfold fnEv at z
      split at z
      · assumption
      · exact absurd rfl z
    · rw [eq]
      exact fnRun_of (Lw.fun_ c hd) (scopeB_ok O.sc) ih (chk K k _ d hd)
/-- the goal that the head leaves -/
theorem Lw.walk {l : PySem.W.OpenLaw} {q : Program} {loose : List Str} {XP : (Str → Option Value) → Heap → Prop} {dr : DefRec} (L : Lw) (n k : Nat) (dl : DD) (hn : l.most = some 63) (hdf : dr.params.defaults = []) (hname : dr.name = dl.name)
    (hf : findD dl.name L.T = some dl) (h1 : ∃ x, dl.ps = [x]) (hr : Room k callerA) (ok : ∀ d ∈ L.T, DDok d) (xok : ∀ d ∈ L.xt, XDok d) (hP : L.xt = [] ∨ ((l.prog.main.file : Str) = L.file ∧ (l.prog.main.scope.names.lookup ("super" : Str)).isSome = false)) (chk : ∀ K k Φ, ∀ d ∈ L.T, chkB (L.mdl K Φ k) d.N d.body (defScope d.st) (defBody d.st) = true)
    (law : ∀ K (ns : List Int), ns.length ≤ 63 → (∀ z ∈ ns, Builtin.Int.intBits z ≤ 1048576) → ∃ h', L.phi K k dl.name [.scr (ns.map .int)] [] = .ok (.bl true) h') :
    PySem.W.WalkO q loose XP (L.hook n).says l.row.toRowW dr [] (fun f vs => PySem.call f vs) := by
  refine Att.attach_callB hn hdf fun w s₀ s₁ mg mb fa o pm cd doc a vs ns G Y ho hd hcd hmg hobj hints hlen hbits hg => ?_
  obtain ⟨K, KX, c⟩ := Y
  obtain ⟨x, hx⟩ := h1
  have GG := fun base => Lw.ground (P := l.prog) (w := w) (base := base) L KX G.T.g c xok hP ok chk k
  obtain ⟨h', e⟩ := law K ns hlen hbits
  have tb : (L.m K k).tb dl.name = some (He.ga K dl.name, fdOf K (He.ga K dl.name), dl.ps) := by
    show (findD dl.name L.T).map _ = _
    rw [hf]
    rfl
  have I := (GG s₁.heap).fns _ _ _ _ tb
  rw [hname] at hmg
  have ea := hmg.symm.trans I.mgf
  cases ea
  have F := Lw.fun_ c (findD_mem hf).1
  have O := ok dl (findD_mem hf).1
  have hb := F.bindsA (ps := dl.ps) fun kV doc pm an cdv ct us hl => O.bd kV doc pm an cdv ct us (hl.trans O.n)
  exact law_run (x := x) (φ := L.phi K k dl.name) KX G.T.g G.T.b G.T.builtins G.T.nolimit hg hobj hints (Nat.le_trans hlen (by decide)) hr (fun base _ _ => by have R := ((GG base).fns _ _ _ _ tb).run; rw [hx] at R; exact R) (fun s u => by have z := hb s [u] (by rw [hx]; rfl); rw [hx] at z; exact z) e
end Mp

set_option Elab.async false
set_option linter.all false
set_option autoImplicit false
set_option maxRecDepth 100000
set_option maxHeartbeats 4000000
namespace Mp
open PySem PySem.Spec L2
/-! ### the pen of the laws: [cells, at, rest], the first mutable thing -/
def penO (c : List Int) (a g : Int) : AO := .lst [.lst (c.map .int), .int a, .int g]
def drawG : Mp.S := (.ife (.cmp .Gt (.ix (.v 0) (.k (.int 2))) (.k (.int 0))) (.seq (.asg 5 (.bin false .Mod (.bi .int (.cons (.ix (.v 0) (.k (.int 2))) .nil)) (.v 1)))
  (.seq (.set (.v 0) (.k (.int 2)) (.bin false .FloorDiv (.bi .int (.cons (.ix (.v 0) (.k (.int 2))) .nil)) (.v 1)))
  (.seq (.ret (.v 5))
  .nil))) .nil)
def drawC : Mp.S := (.ife (.cmp .NotEq (.ix (.v 0) (.k (.int 0))) (.lst false .nil)) (.seq (.asg 3 (.bi .int (.cons (.ix (.ix (.v 0) (.k (.int 0))) (.bin false .Mod (.bi .int (.cons (.v 2) .nil)) (.bi .len (.cons (.ix (.v 0) (.k (.int 0))) .nil)))) .nil)))
  .nil) .nil)
def drawB : Mp.S := (.ife (.andL (.cons (.cmp .Lt (.v 2) (.bi .len (.cons (.ix (.v 0) (.k (.int 0))) .nil))) (.cons (.cmp .GtE (.bi .abs (.cons (.v 3) .nil)) (.bin false .Pow (.k (.int 10)) (.k (.int 18)))) .nil))) (.seq (.asg 6 (.bin false .Add (.bin false .Mult (.k (.int 2)) (.bin false .Sub (.bi .abs (.cons (.v 3) .nil)) (.bin false .Pow (.k (.int 10)) (.k (.int 18))))) (.bi .int (.cons (.cmp .Lt (.v 3) (.k (.int 0))) .nil))))
  (.seq (.set (.v 0) (.k (.int 2)) (.bin false .FloorDiv (.v 6) (.v 1)))
  (.seq (.ret (.bin false .Mod (.bi .int (.cons (.v 6) .nil)) (.v 1)))
  .nil))) .nil)
def drawM1 (m1 x3 x4 m2 : Int) : Mp.E := (.bin false .Mod (.bi .int (.cons (.bin false .Pow (.bin false .Add (.bin false .Add (.bin false .Mod (.bi .int (.cons (.v 3) .nil)) (.k (.int m1))) (.bin false .Mult (.k (.int x3)) (.v 2))) (.k (.int x4))) (.k (.int 5))) .nil)) (.k (.int m2)))
def drawM2 (x5 x6 x7 m3 : Int) : Mp.E := (.bin false .Mod (.bi .int (.cons (.bin false .Pow (.bin false .Add (.bin false .Add (.bin false .Mult (.v 4) (.bin false .Add (.bin false .Mult (.k (.int 2)) (.v 2)) (.k (.int x5)))) (.bin false .Mult (.bin false .Mult (.k (.int x6)) (.v 2)) (.v 2))) (.k (.int x7))) (.k (.int 3))) .nil)) (.k (.int m3)))
def drawA (x1 x2 m1 x3 x4 m2 x5 x6 x7 m3 : Int) : Mp.S := (.seq drawG
  (.seq (.asg 2 (.bi .int (.cons (.ix (.v 0) (.k (.int 1))) .nil)))
  (.seq (.set (.v 0) (.k (.int 1)) (.bin false .Add (.v 2) (.k (.int 1))))
  (.seq (.asg 3 (.bin false .Add (.bin false .Mult (.k (.int x1)) (.v 2)) (.k (.int x2))))
  (.seq drawC
  (.seq drawB
  (.seq (.asg 4 (drawM1 m1 x3 x4 m2))
  (.seq (.asg 4 (drawM2 x5 x6 x7 m3))
  (.seq (.ret (.bin false .Mod (.bi .int (.cons (.bin false .FloorDiv (.v 4) (.k (.int 32))) .nil)) (.v 1)))
  .nil)))))))))
section
variable (M : Mdl) (ρ : Ev) (h : AH)
/-! small steps -/
theorem ixP {d e x : D} {h : AH} {xs : List D} {i : Int} {j : Nat} (h1 : sqD h d = some xs) (he : e = .int i) (hj : i = (j : Int)) (hx : xs[j]? = some x) (hs : ∀ z, d ≠ .str z) : ixD d e h = .ok x h := by
  subst he
  subst hj
  have hl : j < xs.length := (List.getElem?_eq_some_iff.mp hx).1
  have ha : atI xs (j : Int) = some x := by
    unfold atI ixN
    rw [if_pos (by omega), if_pos (by omega)]
    simpa using hx
  cases d <;> first | exact absurd rfl (hs _) | (simp only [ixD, h1, ha])
theorem fdiv_ok {i j : Int} {h : AH} (h1 : 0 < j) (h2 : j < 2 ^ 64) : fdivD (.int i) (.int j) h = .ok (.int (i / j)) h := by
  have q : j.natAbs.log2 < 9000 := by
    have : j.natAbs < 2 ^ 64 := by omega
    exact Nat.lt_trans (Nat.log2_lt (by omega) |>.mpr this) (by decide)
  simp [fdivD, iiD, okb, h1, q]
theorem mod_ok {i j : Int} {h : AH} (h1 : 0 < j) : modD (.int i) (.int j) h = .ok (.int (i % j)) h := by
  simp [modD, iiD, okb, h1]
theorem pow_ok {i : Int} {n : Nat} {h : AH} (h1 : i.natAbs < 2 ^ 64) (h2 : n ≤ 1000000) : powD (.int i) (.int (n : Int)) h = .ok (.int (i ^ n)) h := by
  have q : ((n : Int)) ≤ 1000000 := by omega
  have q0 : (0 : Int) ≤ n := by omega
  simp only [powD, iiD, okb, decide_eq_true q, decide_eq_true q0, decide_eq_true h1, Bool.and_self]
  rfl
theorem mul_ok {m : Bool} {i j : Int} {h : AH} (h1 : -(2 ^ 64) < i ∧ i < 2 ^ 64) : mulD m (.int i) (.int j) h = .ok (.int (i * j)) h := by
  have e : mulD m (.int i) (.int j) h = mulI (.int i) (.int j) h := rfl
  rw [e]
  simp only [mulI, iiD, okb, decide_eq_true h1.1, decide_eq_true h1.2, Bool.and_self, Bool.true_or]
theorem mul_ok2 {m : Bool} {i j : Int} {h : AH} (h1 : -(2 ^ 64) < j ∧ j < 2 ^ 64) : mulD m (.int i) (.int j) h = .ok (.int (i * j)) h := by
  have e : mulD m (.int i) (.int j) h = mulI (.int i) (.int j) h := rfl
  rw [e]
  simp only [mulI, iiD, okb, decide_eq_true h1.1, decide_eq_true h1.2, Bool.and_self, Bool.or_true]
end
theorem toPy_ints (h : AH) (c : List Int) : toPy h 64 (.lst (c.map .int)) = some (.list (c.map .int)) := by
  have q : ∀ c : List Int, allM (toPy h 63) (c.map .int) = some (c.map .int) := by
    intro c
    induction c with
    | nil => rfl
    | cons a c ih => simp [allM, ih, toPy]
  simp [toPy, q]
theorem shaped_ints (c : List Int) : SeqAt.shaped (.list (c.map .int)) = true := by
  have q1 : ∀ c : List Int, PyData.canLayAll0 (c.map .int) = true := by
    intro c
    induction c with
    | nil => rfl
    | cons a c ih => simp [PyData.canLayAll0, PyData.canLay0, ih]
  have q2 : ∀ c : List Int, PyData.depthAll (c.map .int) ≤ 1 := by
    intro c
    induction c with
    | nil => simp [PyData.depthAll]
    | cons a c ih => simp [PyData.depthAll, PyData.depth]; omega
  unfold SeqAt.shaped
  rw [Bool.and_eq_true_iff]
  refine ⟨by simp [PyData.canLay0, q1], decide_eq_true ?_⟩
  have := q2 c
  simp [PyData.depth]
  omega
theorem ne_cells (c : List Int) (h : AH) : neD (.lst (c.map .int)) (.lst []) h = .ok (.bl (!c.isEmpty)) h := by
  cases c <;> rfl
end Mp

set_option Elab.async false
set_option linter.all false
set_option autoImplicit false
set_option maxRecDepth 100000
set_option maxHeartbeats 4000000
namespace Mp
open PySem PySem.Spec L2
section
variable {c : List Int} {a g z : Int} {t : AH} {h : AH} {i j : Int}
theorem pen_ix0 : ixD (.ref 0) (.int 0) (penO c a g :: t) = .ok (.lst (c.map .int)) (penO c a g :: t) := rfl
theorem pen_ix1 : ixD (.ref 0) (.int 1) (penO c a g :: t) = .ok (.int a) (penO c a g :: t) := rfl
theorem pen_ix2 : ixD (.ref 0) (.int 2) (penO c a g :: t) = .ok (.int g) (penO c a g :: t) := rfl
theorem pen_set1 : setD (.ref 0) (.int 1) (.int z) (penO c a g :: t) = .ok () (penO c z g :: t) := rfl
theorem pen_set2 : setD (.ref 0) (.int 2) (.int z) (penO c a g :: t) = .ok () (penO c a z :: t) := rfl
theorem c_gt : cop .Gt (.int i) (.int j) h = .ok (.bl (decide (j < i))) h := rfl
theorem c_lt : cop .Lt (.int i) (.int j) h = .ok (.bl (decide (i < j))) h := rfl
theorem c_le : cop .LtE (.int i) (.int j) h = .ok (.bl (decide (i ≤ j))) h := rfl
theorem c_ge : cop .GtE (.int i) (.int j) h = .ok (.bl (decide (j ≤ i))) h := rfl
theorem c_eqi : cop .Eq (.int i) (.int j) h = .ok (.bl (decide (i = j))) h := rfl
theorem c_nei : cop .NotEq (.int i) (.int j) h = .ok (.bl (!decide (i = j))) h := rfl
theorem c_ne : cop .NotEq = neD := rfl
theorem b_mod : bop false .Mod = modD := rfl
theorem b_fdiv : bop false .FloorDiv = fdivD := rfl
theorem b_pow : bop false .Pow = powD := rfl
theorem b_mul : bop false .Mult = mulD false := rfl
theorem b_add : bop false .Add (.int i) (.int j) h = .ok (.int (i + j)) h := rfl
theorem b_sub : bop false .Sub (.int i) (.int j) h = .ok (.int (i - j)) h := rfl
theorem bi_int : Bi.run .int [.int i] h = .ok (.int i) h := rfl
theorem bi_intb {b : Bool} : Bi.run .int [.bl b] h = .ok (.int (if b then 1 else 0)) h := rfl
theorem bi_abs : Bi.run .abs [.int i] h = .ok (.int (if i < 0 then -i else i)) h := rfl
theorem bi_lenl {xs : List D} : Bi.run .len [.lst xs] h = .ok (.int xs.length) h := rfl
theorem truR_bl {b : Bool} : truR (.bl b) h = .ok b h := rfl
end
/-- the constants of a draw -/
structure DrC (x1 x2 m1 x3 x4 m2 x5 x6 x7 m3 : Int) : Prop where
  p1 : 0 ≤ x1 ∧ x1 < 100000
  p2 : 0 ≤ x2 ∧ x2 < 100000
  q1 : 0 < m1 ∧ m1 < 2147483648
  p3 : 0 ≤ x3 ∧ x3 < 100000
  p4 : 0 ≤ x4 ∧ x4 < 100000
  q2 : 0 < m2 ∧ m2 < 2147483648
  p5 : 0 ≤ x5 ∧ x5 < 100000
  p6 : 0 ≤ x6 ∧ x6 < 100000
  p7 : 0 ≤ x7 ∧ x7 < 100000
  q3 : 0 < m3 ∧ m3 < 2147483648
section
variable {M : Mdl} {c : List Int} {a g b z : Int} {t : AH} {x1 x2 m1 x3 x4 m2 x5 x6 x7 m3 : Int}
theorem drawG_pos (hb : 0 < b) (hb3 : b < 2 ^ 64) (hg : 0 < g) (r : List (Option D)) : ex M drawG (some (.ref 0) :: some (.int b) :: none :: none :: none :: none :: r) (penO c a g :: t) = .rt (.int (g % b)) (penO c a (g / b) :: t) := by
  simp only [drawG, ex, ev, evs, R.bind, R.toS, RS.andThen, List.getElem?_cons_zero, List.getElem?_cons_succ, List.set_cons_zero, List.set_cons_succ, pen_ix2, c_gt, truR_bl, decide_eq_true hg, bi_int, b_mod, b_fdiv, mod_ok hb, fdiv_ok hb hb3, pen_set2]
theorem drawG_no (hg : ¬ 0 < g) (r : List (Option D)) : ex M drawG (some (.ref 0) :: r) (penO c a g :: t) = .nx (some (.ref 0) :: r) (penO c a g :: t) := by
  simp only [drawG, ex, ev, evs, R.bind, R.toS, RS.andThen, List.getElem?_cons_zero, pen_ix2, c_gt, truR_bl, decide_eq_false hg]
theorem drawC_ok {w n : Int} (r : List (Option D)) : ∃ z : Int, ex M drawC (some (.ref 0) :: some (.int b) :: some (.int a) :: some (.int w) :: r) (penO c n g :: t) = .nx (some (.ref 0) :: some (.int b) :: some (.int a) :: some (.int z) :: r) (penO c n g :: t) := by
  cases hc : c with
  | nil =>
    refine ⟨w, ?_⟩
    have e := ne_cells [] (penO [] n g :: t)
    have e : neD (.lst (List.map D.int [])) (.lst []) (penO [] n g :: t) = .ok (.bl false) (penO [] n g :: t) := e
    simp only [drawC, ex, ev, evs, R.bind, R.toS, RS.andThen, List.getElem?_cons_zero, List.getElem?_cons_succ, pen_ix0, c_ne, newL, okb, List.length_nil, Nat.zero_le, decide_true, e, truR_bl]
  | cons y ys =>
    have hl : (0 : Int) < ((y :: ys).map D.int).length := by simp
    obtain ⟨j, hj⟩ : ∃ j : Nat, a % (((y :: ys).map D.int).length : Int) = j := ⟨_, (Int.toNat_of_nonneg (Int.emod_nonneg _ (by omega))).symm⟩
    have jl : j < (y :: ys).length := by
      have := Int.emod_lt_of_pos a hl
      rw [hj, List.length_map] at this
      exact Int.ofNat_lt.mp this
    have hx : ((y :: ys).map D.int)[j]? = some (.int ((y :: ys)[j]'jl)) := by
      rw [List.getElem?_map, List.getElem?_eq_getElem jl]
      rfl
    refine ⟨(y :: ys)[j]'jl, ?_⟩
    have e := ne_cells (y :: ys) (penO (y :: ys) n g :: t)
    have e : neD (.lst (List.map D.int (y :: ys))) (.lst []) (penO (y :: ys) n g :: t) = .ok (.bl true) (penO (y :: ys) n g :: t) := e
    have i := ixP (d := .lst ((y :: ys).map .int)) (h := penO (y :: ys) n g :: t) (xs := (y :: ys).map .int) rfl rfl hj hx (fun _ q => by cases q)
    simp only [drawC, ex, ev, evs, R.bind, R.toS, RS.andThen, List.getElem?_cons_zero, List.getElem?_cons_succ, List.set_cons_zero, List.set_cons_succ, pen_ix0, c_ne, newL, okb, List.length_nil, Nat.zero_le, decide_true, e, truR_bl, bi_int, b_mod, bi_lenl, mod_ok hl, i]
theorem pow18 (h : AH) : powD (.int 10) (.int 18) h = .ok (.int (10 ^ 18)) h := pow_ok (i := 10) (n := 18) (by decide) (by decide)
def grt (z : Int) : Int := 2 * ((if z < 0 then -z else z) - 10 ^ 18) + (if decide (z < 0) = true then 1 else 0)
theorem mul2 {m : Bool} {h : AH} {w : Int} : mulD m (.int 2) (.int w) h = .ok (.int (2 * w)) h := mul_ok (by omega)
theorem drawB_big (hb : 0 < b) (hb3 : b < 2 ^ 64) (h1 : a < ((c.map D.int).length : Int)) (h2 : (10 : Int) ^ 18 ≤ (if z < 0 then -z else z)) {n : Int} : ex M drawB [some (.ref 0), some (.int b), some (.int a), some (.int z), none, none, none] (penO c n g :: t) = .rt (.int (grt z % b)) (penO c n (grt z / b) :: t) := by
  simp only [drawB, ex, ev, evs, evAnd, R.bind, R.toS, RS.andThen, List.getElem?_cons_zero, List.getElem?_cons_succ, List.set_cons_zero, List.set_cons_succ, pen_ix0, bi_lenl, c_lt, decide_eq_true h1, bi_abs, b_pow, pow18, c_ge, decide_eq_true h2, truR_bl, b_sub, b_mul, mul2, bi_intb, b_add, b_fdiv, fdiv_ok hb hb3, pen_set2, bi_int, b_mod, mod_ok hb, grt]
theorem drawB_no {n : Int} (h : ¬ (a < ((c.map D.int).length : Int) ∧ (10 : Int) ^ 18 ≤ (if z < 0 then -z else z))) (r : List (Option D)) : ex M drawB (some (.ref 0) :: some (.int b) :: some (.int a) :: some (.int z) :: r) (penO c n g :: t) = .nx (some (.ref 0) :: some (.int b) :: some (.int a) :: some (.int z) :: r) (penO c n g :: t) := by
  by_cases h1 : a < ((c.map D.int).length : Int)
  · have h2 : ¬ (10 : Int) ^ 18 ≤ (if z < 0 then -z else z) := fun q => h ⟨h1, q⟩
    simp only [drawB, ex, ev, evs, evAnd, R.bind, R.toS, RS.andThen, List.getElem?_cons_zero, List.getElem?_cons_succ, pen_ix0, bi_lenl, c_lt, decide_eq_true h1, bi_abs, b_pow, pow18, c_ge, decide_eq_false h2, truR_bl]
  · simp only [drawB, ex, ev, evs, evAnd, R.bind, R.toS, RS.andThen, List.getElem?_cons_zero, List.getElem?_cons_succ, pen_ix0, bi_lenl, c_lt, decide_eq_false h1, truR_bl]
theorem drawM1_ok (C : DrC x1 x2 m1 x3 x4 m2 x5 x6 x7 m3) (ha : 0 ≤ a) (ha2 : a < 1000000) (r : List (Option D)) (h : AH) : ∃ y : Int, 0 ≤ y ∧ y < m2 ∧ ev M (drawM1 m1 x3 x4 m2) (some (.ref 0) :: some (.int b) :: some (.int a) :: some (.int z) :: r) h = .ok (.int y) h := by
  have k1 := Int.emod_nonneg z (show m1 ≠ 0 by have := C.q1; omega)
  have k2 := Int.emod_lt_of_pos z C.q1.1
  have k3 : 0 ≤ x3 * a := Int.mul_nonneg C.p3.1 ha
  have k4 : x3 * a ≤ 100000 * 1000000 := Int.mul_le_mul (by have := C.p3; omega) (by omega) ha (by omega)
  have kk : (z % m1 + x3 * a + x4).natAbs < 2 ^ 64 := by
    have := C.p4
    have := C.q1
    omega
  have p := fun h => pow_ok (i := z % m1 + x3 * a + x4) (n := 5) (h := h) kk (by decide)
  have p' : ∀ h, powD (.int (z % m1 + x3 * a + x4)) (.int 5) h = .ok (.int ((z % m1 + x3 * a + x4) ^ 5)) h := p
  refine ⟨(z % m1 + x3 * a + x4) ^ 5 % m2, Int.emod_nonneg _ (by have := C.q2; omega), Int.emod_lt_of_pos _ C.q2.1, ?_⟩
  have m := fun (m : Bool) (h : AH) => mul_ok (m := m) (i := x3) (j := a) (h := h) (by have := C.p3; omega)
  simp only [drawM1, ev, evs, R.bind, List.getElem?_cons_zero, List.getElem?_cons_succ, bi_int, b_mod, b_mul, b_pow, b_add, m, mod_ok C.q1.1, p', mod_ok C.q2.1]
theorem drawM2_ok (C : DrC x1 x2 m1 x3 x4 m2 x5 x6 x7 m3) (ha : 0 ≤ a) (ha2 : a < 1000000) {w : Option D} {y : Int} (h1 : 0 ≤ y) (h2 : y < m2) (r : List (Option D)) (h : AH) : ∃ y' : Int, 0 ≤ y' ∧ y' < m3 ∧ ev M (drawM2 x5 x6 x7 m3) (some (.ref 0) :: some (.int b) :: some (.int a) :: w :: some (.int y) :: r) h = .ok (.int y') h := by
  have k0 : 0 ≤ y * (2 * a + x5) := Int.mul_nonneg h1 (by have := C.p5; omega)
  have k1 : y * (2 * a + x5) ≤ 2147483648 * 2100000 := Int.mul_le_mul (by have := C.q2; omega) (by have := C.p5; omega) (by have := C.p5; omega) (by omega)
  have k2 : 0 ≤ x6 * a := Int.mul_nonneg C.p6.1 ha
  have k3 : x6 * a ≤ 100000 * 1000000 := Int.mul_le_mul (by have := C.p6; omega) (by omega) ha (by omega)
  have k4 : 0 ≤ x6 * a * a := Int.mul_nonneg k2 ha
  have k5 : x6 * a * a ≤ 100000 * 1000000 * 1000000 := Int.mul_le_mul k3 (by omega) ha (by omega)
  have kk : (y * (2 * a + x5) + x6 * a * a + x7).natAbs < 2 ^ 64 := by
    have := C.p7
    omega
  have p : ∀ h, powD (.int (y * (2 * a + x5) + x6 * a * a + x7)) (.int 3) h = .ok (.int ((y * (2 * a + x5) + x6 * a * a + x7) ^ 3)) h := fun h => pow_ok (i := y * (2 * a + x5) + x6 * a * a + x7) (n := 3) (h := h) kk (by decide)
  refine ⟨(y * (2 * a + x5) + x6 * a * a + x7) ^ 3 % m3, Int.emod_nonneg _ (by have := C.q3; omega), Int.emod_lt_of_pos _ C.q3.1, ?_⟩
  have e1 := fun (m : Bool) (h : AH) => mul_ok (m := m) (i := x6) (j := a) (h := h) (by have := C.p6; omega)
  have e2 := fun (m : Bool) (h : AH) => mul_ok2 (m := m) (i := x6 * a) (j := a) (h := h) (by omega)
  have e3 := fun (m : Bool) (h : AH) => mul_ok (m := m) (i := y) (j := 2 * a + x5) (h := h) (by have := C.q2; omega)
  simp only [drawM2, ev, evs, R.bind, List.getElem?_cons_zero, List.getElem?_cons_succ, bi_int, b_mod, b_mul, b_pow, b_add, mul2, e1, e2, e3, p, mod_ok C.q3.1]
theorem grt_pos (h : (10 : Int) ^ 18 ≤ (if z < 0 then -z else z)) : 0 ≤ grt z := by
  unfold grt
  have e : (0 : Int) ≤ (if decide (z < 0) = true then 1 else 0) := by split <;> omega
  omega
theorem ex_seq {p q : Mp.S} {ρ : Ev} {h : AH} : ex M (.seq p q) ρ h = (ex M p ρ h).andThen fun ρ1 h1 => ex M q ρ1 h1 := rfl
theorem ex_asg {i : Nat} {e : Mp.E} {ρ : Ev} {h : AH} : ex M (.asg i e) ρ h = (ev M e ρ h).toS fun d h1 => .nx (ρ.set i (some d)) h1 := rfl
theorem drawA_ok (C : DrC x1 x2 m1 x3 x4 m2 x5 x6 x7 m3) (hb : 0 < b) (hb2 : b < 2 ^ 60) (ha : 0 ≤ a) (ha2 : a < 1000000) (hg : 0 ≤ g) :
    ∃ d a' g', ex M (drawA x1 x2 m1 x3 x4 m2 x5 x6 x7 m3) [some (.ref 0), some (.int b), none, none, none, none, none] (penO c a g :: t) = .rt (.int d) (penO c a' g' :: t) ∧ 0 ≤ d ∧ d < b ∧ 0 ≤ a' ∧ a' ≤ a + 1 ∧ 0 ≤ g' := by
  have hb3 : b < 2 ^ 64 := by omega
  by_cases hg0 : 0 < g
  · refine ⟨g % b, a, g / b, ?_, Int.emod_nonneg _ (by omega), Int.emod_lt_of_pos _ hb, ha, by omega, Int.ediv_nonneg hg (by omega)⟩
    rw [drawA, ex_seq, drawG_pos hb hb3 hg0]
    rfl
  · obtain ⟨z, hz⟩ := drawC_ok (M := M) (c := c) (a := a) (g := g) (b := b) (t := t) (w := x1 * a + x2) (n := a + 1) [none, none, none]
    have m1' : ∀ (m : Bool) (h : AH), mulD m (.int x1) (.int a) h = .ok (.int (x1 * a)) h := fun m h => mul_ok (by have := C.p1; omega)
    have start : ∀ q : Mp.S, ex M (.seq drawG (.seq (.asg 2 (.bi .int (.cons (.ix (.v 0) (.k (.int 1))) .nil))) (.seq (.set (.v 0) (.k (.int 1)) (.bin false .Add (.v 2) (.k (.int 1)))) (.seq (.asg 3 (.bin false .Add (.bin false .Mult (.k (.int x1)) (.v 2)) (.k (.int x2)))) (.seq drawC q)))))
        [some (.ref 0), some (.int b), none, none, none, none, none] (penO c a g :: t) = ex M q [some (.ref 0), some (.int b), some (.int a), some (.int z), none, none, none] (penO c (a + 1) g :: t) := by
      intro q
      simp only [ex_seq, drawG_no hg0, RS.andThen, ex, ev, evs, R.bind, R.toS, List.getElem?_cons_zero, List.getElem?_cons_succ, List.set_cons_zero, List.set_cons_succ, pen_ix1, bi_int, b_add, pen_set1, b_mul, m1', hz]
    rw [drawA, start]
    by_cases big : a < ((c.map D.int).length : Int) ∧ (10 : Int) ^ 18 ≤ (if z < 0 then -z else z)
    · refine ⟨grt z % b, a + 1, grt z / b, ?_, Int.emod_nonneg _ (by omega), Int.emod_lt_of_pos _ hb, by omega, by omega, Int.ediv_nonneg (grt_pos big.2) (by omega)⟩
      rw [ex_seq, drawB_big hb hb3 big.1 big.2]
      rfl
    · obtain ⟨y, y1, y2, ye⟩ := drawM1_ok (M := M) (b := b) (z := z) C ha ha2 [none, none, none] (penO c (a + 1) g :: t)
      obtain ⟨u, u1, u2, ue⟩ := drawM2_ok (M := M) (b := b) (w := some (.int z)) C ha ha2 y1 y2 [none, none] (penO c (a + 1) g :: t)
      refine ⟨u / 32 % b, a + 1, g, ?_, Int.emod_nonneg _ (by omega), Int.emod_lt_of_pos _ hb, by omega, by omega, hg⟩
      have f := fun h => fdiv_ok (i := u) (j := 32) (h := h) (by omega) (by omega)
      simp only [ex_seq, drawB_no big, RS.andThen, ex_asg, ye, R.toS, List.set_cons_zero, List.set_cons_succ, ue]
      simp only [ex, ev, evs, R.bind, R.toS, RS.andThen, List.getElem?_cons_zero, List.getElem?_cons_succ, b_fdiv, f, bi_int, b_mod, mod_ok hb]
end
end Mp

set_option Elab.async false
set_option linter.all false
set_option autoImplicit false
set_option maxRecDepth 100000
set_option maxHeartbeats 4000000
namespace Mp
open PySem PySem.Spec L2
/-! ### loops that keep a law -/
theorem forLoop_inv {f : D → Ev → AH → RS} {I : Nat → Ev → AH → Prop} {B : Nat} (step : ∀ i x ρ h, i < B → I i ρ h → ∃ ρ' h', f x ρ h = .nx ρ' h' ∧ I (i + 1) ρ' h') :
    ∀ (xs : List D) (i : Nat) (ρ : Ev) (h : AH), i + xs.length ≤ B → I i ρ h → ∃ ρ' h', forLoop f (fun _ => true) xs ρ h = .nx ρ' h' ∧ I (i + xs.length) ρ' h'
  | [], i, ρ, h, _, hi => ⟨ρ, h, rfl, hi⟩
  | x :: xs, i, ρ, h, hB, hi => by
    obtain ⟨ρ1, h1, e1, i1⟩ := step i x ρ h (by simp at hB; omega) hi
    obtain ⟨ρ2, h2, e2, i2⟩ := forLoop_inv step xs (i + 1) ρ1 h1 (by simp at hB; omega) i1
    refine ⟨ρ2, h2, ?_, ?_⟩
    · simp only [forLoop, e1, e2]
    · have : i + (x :: xs).length = i + 1 + xs.length := by simp; omega
      rw [this]
      exact i2
theorem lcLoop_inv {f : D → AH → R (Option D)} {I : Nat → AH → Prop} {S : D → Prop} {B : Nat} (step : ∀ i x h, i < B → I i h → ∃ y h', f x h = .ok (some y) h' ∧ S y ∧ I (i + 1) h') :
    ∀ (xs : List D) (i : Nat) (h : AH), i + xs.length ≤ B → I i h → ∃ ys h', lcLoop f (fun _ => true) xs h = .ok ys h' ∧ (∀ y ∈ ys, S y) ∧ ys.length = xs.length ∧ I (i + xs.length) h'
  | [], i, h, _, hi => ⟨[], h, rfl, (fun _ q => nomatch q), rfl, hi⟩
  | x :: xs, i, h, hB, hi => by
    obtain ⟨y, h1, e1, s1, i1⟩ := step i x h (by simp at hB; omega) hi
    obtain ⟨ys, h2, e2, s2, l2, i2⟩ := lcLoop_inv step xs (i + 1) h1 (by simp at hB; omega) i1
    refine ⟨y :: ys, h2, ?_, ?_, by simp [l2], ?_⟩
    · simp only [lcLoop, e1, R.bind, e2, Option.toList, List.singleton_append]
    · intro z hz
      rcases List.mem_cons.mp hz with rfl | q
      · exact s1
      · exact s2 z q
    · have : i + (x :: xs).length = i + 1 + xs.length := by simp; omega
      rw [this]
      exact i2
/-- a comprehension that changes nothing: each item gives what g says -/
theorem lcLoop_map {α : Type} {f : D → AH → R (Option D)} {e : α → D} {g : α → Option D} {h : AH} : ∀ (xs : List α), (∀ x ∈ xs, f (e x) h = .ok (g x) h) → lcLoop f (fun _ => true) (xs.map e) h = .ok (xs.filterMap g) h
  | [], _ => rfl
  | x :: xs, z => by
    have e1 := z x (List.mem_cons_self ..)
    have e2 := lcLoop_map xs fun y hy => z y (List.mem_cons_of_mem _ hy)
    simp only [List.map_cons, lcLoop, e1, R.bind, e2]
    cases q : g x with
    | none => simp [List.filterMap_cons, q]
    | some y => simp [List.filterMap_cons, q]
theorem fmap_some {α β : Type} (g : α → β) : ∀ xs : List α, xs.filterMap (fun x => some (g x)) = xs.map g := by
  intro xs
  simp
theorem fmap_if {α : Type} (p : α → Bool) (g : α → D) : ∀ xs : List α, (xs.filterMap fun x => if p x then some (g x) else none).isEmpty = xs.all fun x => !p x := by
  intro xs
  induction xs with
  | nil => rfl
  | cons x xs ih =>
    cases q : p x with
    | true => simp [List.filterMap_cons, q]
    | false =>
      simp only [List.filterMap_cons, q, List.all_cons, Bool.not_false, Bool.true_and]
      exact ih
/-- a comprehension, by its loop -/
theorem lc_ok {M : Mdl} {t : Tg} {it c el : Mp.E} {ρ : Ev} {h h1 h2 : AH} {xs ys : List D} {ck : AH → Bool} (hi : evI M it ρ h = .ok (xs, ck) h1) (hl : xs.length ≤ sizeLine)
    (hq : lcLoop (fun x h => match t.bind x (wipeE ρ t.own) with
      | some ρ' => lcTurn (fun ρ h => tst c (ev M c ρ h) h) (fun ρ h => ev M el ρ h) ρ' h
      | none => .bad) ck xs h1 = .ok ys h2) : ev M (.lc false t it c el) ρ h = .ok (.lst ys) h2 := by
  show ((evI M it ρ h).bind fun p h1 => okb (decide (p.1.length ≤ sizeLine)) (lcIt false t (fun ρ h => tst c (ev M c ρ h) h) (fun ρ h => ev M el ρ h) ρ p.1 p.2 h1)) = _
  rw [hi]
  show okb (decide (xs.length ≤ sizeLine)) ((lcLoop _ ck xs h1).bind fun ys h2 => newL false ys h2) = _
  rw [decide_eq_true hl]
  exact congrArg (fun r : R (List D) => r.bind fun ys h2 => newL false ys h2) hq
/-! ### the pen's state -/
def Pen (c : List Int) (n : Int) (t h : AH) : Prop := ∃ a g, h = penO c a g :: t ∧ 0 ≤ a ∧ a ≤ n ∧ 0 ≤ g
theorem Pen.mono {c : List Int} {n m : Int} {t h : AH} (p : Pen c n t h) (e : n ≤ m) : Pen c m t h := by
  obtain ⟨a, g, h1, h2, h3, h4⟩ := p
  exact ⟨a, g, h1, h2, by omega, h4⟩
def pickA : Mp.S := (.seq (.ret (.ix (.v 1) (.call "_law_draw" (.cons (.v 0) (.cons (.bi .len (.cons (.v 1) .nil)) .nil))))) .nil)
/-- a law's draw is a draw -/
structure HasDraw (L : Lw) : Prop where
  ex_ : ∃ d x1 x2 m1 x3 x4 m2 x5 x6 x7 m3, findD "_law_draw" L.T = some d ∧ d.N.length = 7 ∧ d.n = 2 ∧ d.body = drawA x1 x2 m1 x3 x4 m2 x5 x6 x7 m3 ∧ DrC x1 x2 m1 x3 x4 m2 x5 x6 x7 m3
structure HasPick (L : Lw) : Prop where
  ex_ : ∃ d, findD "_law_pick" L.T = some d ∧ d.N.length = 2 ∧ d.n = 2 ∧ d.body = pickA
section
variable {L : Lw} {K : PySem.W.Frag} {k : Nat} {c : List Int} {n b : Int} {t h : AH}
theorem phi_at {f : Str} {d : DD} (e : findD f L.T = some d) (ds : List D) (h : AH) : L.phi K (k + 1) f ds h = fnEv (L.m K k) d.N d.n d.body ds h := by
  show (match findD f L.T with
    | some d => fnEv (L.mdl K (L.phi K k) k) d.N d.n d.body ds h
    | none => .bad) = _
  rw [e]
  rfl
theorem fnEv_at {M : Mdl} {N : List Str} {m : Nat} {body : Mp.S} {ds : List D} {l : Nat} (hl : N.length = l) (e : ds.length = m) : fnEv M N m body ds h = (ex M body (ds.map some ++ List.replicate (l - m) none) h).toR := by
  unfold fnEv
  rw [if_pos e, hl]
theorem draw_k (D0 : HasDraw L) (p : Pen c n t h) (hn : n < 1000000) (hb : 0 < b) (hb2 : b < 2 ^ 60) : ∃ d h', L.phi K (k + 1) "_law_draw" [.ref 0, .int b] h = .ok (.int d) h' ∧ 0 ≤ d ∧ d < b ∧ Pen c (n + 1) t h' := by
  obtain ⟨d, x1, x2, m1, x3, x4, m2, x5, x6, x7, m3, e1, e2, e3, e4, C⟩ := D0.ex_
  obtain ⟨a, g, rfl, h2, h3, h4⟩ := p
  obtain ⟨z, a', g', q1, q2, q3, q4, q5, q6⟩ := drawA_ok (M := L.m K k) (c := c) (a := a) (g := g) (b := b) (t := t) C hb hb2 h2 (by omega) h4
  refine ⟨z, penO c a' g' :: t, ?_, q2, q3, a', g', rfl, q4, by omega, q6⟩
  rw [phi_at e1, fnEv_at e2 (by rw [e3]; rfl), e3, e4]
  show (ex (L.m K k) _ [some (.ref 0), some (.int b), none, none, none, none, none] (penO c a g :: t)).toR = _
  rw [q1]
  rfl
theorem pick_k (D0 : HasDraw L) (P0 : HasPick L) {xs : List D} (p : Pen c n t h) (hn : n < 1000000) (hx : xs ≠ []) (hx2 : xs.length ≤ 1000000) : ∃ x h', L.phi K (k + 2) "_law_pick" [.ref 0, .lst xs] h = .ok x h' ∧ x ∈ xs ∧ Pen c (n + 1) t h' := by
  obtain ⟨d, e1, e2, e3, e4⟩ := P0.ex_
  have hl : (0 : Int) < (xs.length : Int) := by
    cases xs with
    | nil => exact absurd rfl hx
    | cons _ _ => simp
  obtain ⟨z, h', q1, q2, q3, q4⟩ := draw_k (K := K) (k := k) D0 p hn hl (by omega)
  have zl : z.toNat < xs.length := by omega
  refine ⟨xs[z.toNat]'zl, h', ?_, List.getElem_mem .., q4⟩
  rw [phi_at e1, fnEv_at e2 (by rw [e3]; rfl), e3, e4]
  have i := ixP (d := .lst xs) (h := h') (xs := xs) (e := .int z) (i := z) (j := z.toNat) rfl rfl (Int.toNat_of_nonneg q2).symm (List.getElem?_eq_getElem zl) (fun _ q => by cases q)
  have q1' : (L.m K (k + 1)).Φ "_law_draw" [.ref 0, .int (xs.length : Int)] h = .ok (.int z) h' := q1
  show (ex (L.m K (k + 1)) pickA [some (.ref 0), some (.lst xs)] h).toR = _
  simp only [pickA, ex, ev, evs, R.bind, R.toS, RS.andThen, List.getElem?_cons_zero, List.getElem?_cons_succ, bi_lenl, q1', i, RS.toR]
end
/-! ### texts -/
theorem join_ones2 : ∀ (cs : List Nat), Txt.join "" (cs.map fun c => (⟨#[c]⟩ : Str)) = ⟨cs.toArray⟩ := by
  intro cs
  show Builtin.Str.glued _ _ = _
  rw [StrLaws.glued_eq_join]
  have z : ((("" : String) : Str)) = ⟨#[]⟩ := by decide +kernel
  rw [z]
  induction cs with
  | nil => rfl
  | cons c cs ih =>
    cases cs with
    | nil => rfl
    | cons d ds =>
      show (⟨#[c]⟩ : Str) ++ ⟨#[]⟩ ++ Str.join ⟨#[]⟩ ((d :: ds).map fun c => (⟨#[c]⟩ : Str)) = _
      rw [ih]
      show (⟨(#[c] ++ #[]) ++ (d :: ds).toArray⟩ : Str) = _
      simp
end Mp

set_option Elab.async false
set_option linter.all false
set_option autoImplicit false
set_option maxRecDepth 100000
set_option maxHeartbeats 4000000
namespace Mp
open PySem PySem.Spec L2
/-! ### kinds of values: the checks of the program's names part -/
def kd : D → Bool
  | .non => true | .bl _ => true | .int _ => true | .str _ => true | .tup _ => true | .lst _ => true | .dic _ _ => true
  | _ => false
def isI : D → Bool
  | .int _ => true
  | _ => false
def isStr : D → Bool
  | .str _ => true
  | _ => false
def isTup : D → Bool
  | .tup _ => true
  | _ => false
def isBl : D → Bool
  | .bl _ => true
  | _ => false
section
variable {d : D} {h : AH}
theorem isi_int (k : kd d = true) : Bi.run .isi [d, .ty "int"] h = .ok (.bl (isI d || isBl d)) h := by
  cases d <;> first | exact absurd k Bool.false_ne_true | kernel_rfl
theorem isi_bool (k : kd d = true) : Bi.run .isi [d, .ty "bool"] h = .ok (.bl (isBl d)) h := by
  cases d <;> first | exact absurd k Bool.false_ne_true | kernel_rfl
theorem isi_str (k : kd d = true) : Bi.run .isi [d, .ty "str"] h = .ok (.bl (isStr d)) h := by
  cases d <;> first | exact absurd k Bool.false_ne_true | kernel_rfl
theorem isi_tuple (k : kd d = true) : Bi.run .isi [d, .ty "tuple"] h = .ok (.bl (isTup d)) h := by
  cases d <;> first | exact absurd k Bool.false_ne_true | kernel_rfl
theorem not_bl {b : Bool} : notD (.bl b) h = .ok (.bl (!b)) h := rfl
theorem bi_lens {x : Str} (hx : x.length ≤ sizeLine) : Bi.run .len [.str x] h = .ok (.int x.length) h := by
  show okb (decide (x.length ≤ sizeLine)) _ = _
  rw [decide_eq_true hx]
  rfl
theorem bi_lent {xs : List D} : Bi.run .len [.tup xs] h = .ok (.int xs.length) h := rfl
theorem ck_str {x : Str} {xs : List D} : ckD (.str x) xs = fun _ => true := rfl
theorem ck_tup {ys xs : List D} : ckD (.tup ys) xs = fun _ => true := rfl
theorem it_str {x : Str} : itD h (.str x) = some (signsD x) := rfl
theorem it_tup {xs : List D} : itD h (.tup xs) = some xs := rfl
theorem in_one {c : Nat} {y : Str} : cop .In (.str ⟨#[c]⟩) (.str y) h = .ok (.bl (decide (c ∈ y.cps.toList))) h := by
  show R.ok (D.bl (false.xor (decide (c ∈ y.cps.toList)))) h = _
  simp
theorem nin_one {c : Nat} {y : Str} : cop .NotIn (.str ⟨#[c]⟩) (.str y) h = .ok (.bl (!decide (c ∈ y.cps.toList))) h := by
  show R.ok (D.bl (true.xor (decide (c ∈ y.cps.toList)))) h = _
  simp
theorem eq_nil {xs : List D} : cop .Eq (.lst xs) (.lst []) h = .ok (.bl xs.isEmpty) h := rfl
theorem c_nes {x y : Str} : cop .NotEq (.str x) (.str y) h = .ok (.bl (!decide (x = y))) h := rfl
theorem truR_bl' {b : Bool} : truR (.bl b) h = .ok b h := rfl
theorem all_bls (f : Nat → Bool) (cs : List Nat) : Bi.run .all [.lst (cs.map fun c => .bl (f c))] h = .ok (.bl (cs.all f)) h := by
  have q : ∀ cs : List Nat, allM blD (cs.map fun c => .bl (f c)) = some (cs.map f) := by
    intro cs
    induction cs with
    | nil => rfl
    | cons c cs ih => simp [allM, blD, ih]
  show (match allM blD (cs.map fun c => .bl (f c)) with
      | some bs => R.ok (D.bl (bs.all id)) h
      | none => .bad) = _
  rw [q]
  simp [List.all_map]
end
/-! what the checks say -/
def inR (lo hi : Int) : D → Bool
  | .int i => decide (lo ≤ i) && decide (i ≤ hi)
  | _ => false
def isBel (l : Int) : D → Bool
  | .int i => decide (0 ≤ i) && decide (i < l)
  | _ => false
def isW (s : Str) : D → Bool
  | .str x => (decide (1 ≤ x.length) && decide (x.length ≤ 8)) && x.cps.toList.all fun c => decide (c ∈ s.cps.toList)
  | _ => false
def isSp : D → Bool
  | .tup [p, q] => isBel 8 p && isBel 8 q
  | _ => false
def shrt : D → Bool
  | .str x => decide (x.length ≤ sizeLine)
  | .tup xs => xs.all kd
  | _ => true
def isIB : Mp.S := (.seq (.ret (.andL (.cons (.bi .isi (.cons (.v 0) (.cons (.t "int" "int") .nil))) (.cons (.not1 (.bi .isi (.cons (.v 0) (.cons (.t "bool" "bool") .nil)))) .nil)))) .nil)
def isBB : Mp.S := (.seq (.ret (.andL (.cons (.call "is_integer" (.cons (.v 0) .nil)) (.cons (.chain .LtE .Lt (.k (.int 0)) (.v 0) (.v 1)) .nil)))) .nil)
def lcW : Mp.E := (.lc false (.one 2) (.sq (.v 0)) .no (.cmp .In (.v 2) (.v 1)))
def isWB : Mp.S := (.seq (.ife (.orL (.cons (.not1 (.bi .isi (.cons (.v 0) (.cons (.t "str" "str") .nil)))) (.cons (.not1 (.chain .LtE .LtE (.k (.int 1)) (.bi .len (.cons (.v 0) .nil)) (.g "MOST_SIGNS" (.int 8)))) .nil))) (.seq (.ret (.k (.bl false)))
  .nil) .nil)
  (.seq (.ret (.bi .all (.cons lcW .nil)))
  .nil))
section
variable {M : Mdl} {d : D} {h : AH}
theorem isIB_ok (k : kd d = true) : ex M isIB [some d] h = .rt (.bl (isI d)) h := by
  simp only [isIB, ex, ev, evs, evAnd, R.bind, R.toS, RS.andThen, List.getElem?_cons_zero, isi_int k, isi_bool k, not_bl]
  cases d <;> first | exact absurd k Bool.false_ne_true | rfl
theorem isBB_ok {l : Int} (hI : M.Φ "is_integer" [d] h = .ok (.bl (isI d)) h) : ex M isBB [some d, some (.int l)] h = .rt (.bl (isBel l d)) h := by
  simp only [isBB, ex, ev, evs, evAnd, R.bind, R.toS, RS.andThen, List.getElem?_cons_zero, List.getElem?_cons_succ, hI]
  cases d with
  | int i =>
    simp only [isI, isBel, c_le, c_lt]
    cases q : decide ((0 : Int) ≤ i) <;> rfl
  | _ => rfl
theorem lcW_ok {x s : Str} {w2 : Option D} (hl : x.length ≤ sizeLine) : ev M lcW [some (.str x), some (.str s), w2] h = .ok (.lst (x.cps.toList.map fun c => .bl (decide (c ∈ s.cps.toList)))) h := by
  refine lc_ok (xs := signsD x) (ck := fun _ => true) rfl ?_ ?_
  · unfold signsD
    rw [List.length_map]
    exact hl
  · rw [← fmap_some]
    refine lcLoop_map (e := fun c => D.str ⟨#[c]⟩) _ fun c _ => ?_
    simp only [Tg.bind, Tg.own, wipeE, lcTurn, noX, tst, ev, R.bind, List.set_cons_succ, List.set_cons_zero, List.getElem?_cons_zero, List.getElem?_cons_succ, in_one]
theorem isWB_ok {s : Str} (k : kd d = true) (hs : shrt d = true) : ex M isWB [some d, some (.str s), none] h = .rt (.bl (isW s d)) h := by
  cases d with
  | str x =>
    have hl : x.length ≤ sizeLine := of_decide_eq_true hs
    have e1 := lcW_ok (M := M) (h := h) (x := x) (s := s) (w2 := none) hl
    simp only [isWB, ex, ev, evs, evOr, R.bind, R.toS, RS.andThen, List.getElem?_cons_zero, List.getElem?_cons_succ, isi_str k, isStr, not_bl, Bool.not_true, bi_lens hl, c_le]
    by_cases h1 : (1 : Int) ≤ (x.length : Int)
    · by_cases h2 : (x.length : Int) ≤ 8
      · have g1 : 1 ≤ x.length := by omega
        have g2 : x.length ≤ 8 := by omega
        simp only [decide_eq_true h1, decide_eq_true h2, not_bl, Bool.not_true, truR_bl, e1, all_bls (fun c => decide (c ∈ s.cps.toList)), isW, decide_eq_true g1, decide_eq_true g2, Bool.true_and, Bool.and_true]
      · have g2 : ¬ x.length ≤ 8 := by omega
        simp only [decide_eq_true h1, decide_eq_false h2, not_bl, Bool.not_false, truR_bl, isW, decide_eq_false g2, Bool.and_false, Bool.false_and]
    · have g1 : ¬ 1 ≤ x.length := by omega
      simp only [decide_eq_false h1, not_bl, Bool.not_false, truR_bl, isW, decide_eq_false g1, Bool.and_false, Bool.false_and]
  | _ => first | exact absurd k Bool.false_ne_true | simp only [isWB, ex, ev, evs, evOr, R.bind, R.toS, RS.andThen, List.getElem?_cons_zero, List.getElem?_cons_succ, isi_str k, isStr, not_bl, Bool.not_false, truR_bl, isW]
end
end Mp

set_option Elab.async false
set_option linter.all false
set_option autoImplicit false
set_option maxRecDepth 100000
set_option maxHeartbeats 4000000
namespace Mp
open PySem PySem.Spec L2
/-! ### things that are drawn: their texts are small -/
mutual
/-- plain: small ints, ASCII texts, tuples, lists, empty dicts -/
def okD : D → Bool
  | .non => true
  | .bl _ => true
  | .int i => decide (i.natAbs < 10 ^ 80)
  | .str x => x.cps.toList.all fun c => decide (c < 128)
  | .tup xs => okDs xs
  | .lst xs => okDs xs
  | .dic [] [] => true
  | .dic [.inr x] [d] => (x.cps.toList.all fun c => decide (c < 128)) && okD d
  | _ => false
def okDs : List D → Bool
  | [] => true
  | x :: xs => okD x && okDs xs
end
mutual
/-- depth -/
def dp : D → Nat
  | .tup xs => dps xs + 1
  | .lst xs => dps xs + 1
  | .dic _ xs => dps xs + 1
  | _ => 0
def dps : List D → Nat
  | [] => 0
  | x :: xs => max (dp x) (dps xs)
end
mutual
/-- weight: no less than the length of the text -/
def wt : D → Nat
  | .str x => 10 * x.length + 10
  | .tup xs => wts xs + 10
  | .lst xs => wts xs + 10
  | .dic [.inr x] [d] => 10 * x.length + 20 + wt d
  | _ => 90
def wts : List D → Nat
  | [] => 0
  | x :: xs => wt x + 2 + wts xs
end
mutual
def toP : D → PyData
  | .bl b => .bool b
  | .int i => .int i
  | .str x => .str x
  | .tup xs => .tuple (toPs xs)
  | .lst xs => .list (toPs xs)
  | .dic [.inr x] [d] => .dict [(.str x, toP d)]
  | .dic _ _ => .dict []
  | _ => .none
def toPs : List D → List PyData
  | [] => []
  | x :: xs => toP x :: toPs xs
end
theorem okDs_mem : ∀ {xs : List D}, okDs xs = true → ∀ x ∈ xs, okD x = true
  | _ :: _, h, z, hz => by
    have h1 := Bool.and_eq_true_iff.mp h
    rcases List.mem_cons.mp hz with rfl | hz
    · exact h1.1
    · exact okDs_mem h1.2 z hz
theorem okDs_of : ∀ {xs : List D}, (∀ x ∈ xs, okD x = true) → okDs xs = true
  | [], _ => rfl
  | x :: xs, h => Bool.and_eq_true_iff.mpr ⟨h x (List.mem_cons_self ..), okDs_of fun z hz => h z (List.mem_cons_of_mem _ hz)⟩
theorem dps_mem : ∀ {xs : List D} {n : Nat}, dps xs ≤ n ↔ ∀ x ∈ xs, dp x ≤ n
  | [], n => by simp [dps]
  | x :: xs, n => by
    show max (dp x) (dps xs) ≤ n ↔ _
    rw [Nat.max_le, dps_mem]
    simp
theorem wts_append : ∀ xs ys : List D, wts (xs ++ ys) = wts xs + wts ys
  | [], ys => by simp [wts]
  | x :: xs, ys => by
    show wt x + 2 + wts (xs ++ ys) = wt x + 2 + wts xs + wts ys
    rw [wts_append xs ys]
    omega
theorem wt_mem : ∀ {xs : List D}, ∀ x ∈ xs, wt x + 2 ≤ wts xs
  | y :: xs, x, h => by
    show wt x + 2 ≤ wt y + 2 + wts xs
    rcases List.mem_cons.mp h with rfl | h
    · omega
    · have := wt_mem x h
      omega
theorem wts_len : ∀ {xs : List D}, 2 * xs.length ≤ wts xs
  | [] => Nat.le_refl _
  | x :: xs => by
    show 2 * (xs.length + 1) ≤ wt x + 2 + wts xs
    have := wts_len (xs := xs)
    omega
theorem wts_take : ∀ (n : Nat) (xs : List D), wts (xs.take n) ≤ wts xs
  | 0, xs => by simp [wts]
  | n + 1, [] => by simp [wts]
  | n + 1, x :: xs => by
    show wt x + 2 + wts (xs.take n) ≤ wt x + 2 + wts xs
    have := wts_take n xs
    omega
theorem wts_drop : ∀ (n : Nat) (xs : List D), wts (xs.drop n) ≤ wts xs
  | 0, xs => by simp
  | n + 1, [] => by simp [wts]
  | n + 1, x :: xs => by
    show wts (xs.drop n) ≤ wt x + 2 + wts xs
    have := wts_drop n xs
    omega
theorem wts_rev : ∀ xs : List D, wts xs.reverse = wts xs
  | [] => rfl
  | x :: xs => by
    rw [List.reverse_cons, wts_append, wts_rev xs]
    show wts xs + (wt x + 2 + 0) = wt x + 2 + wts xs
    omega
/-! the text -/
theorem toPs_len : ∀ xs : List D, (toPs xs).length = xs.length
  | [] => rfl
  | _ :: xs => by simp [toPs, toPs_len xs]
mutual
theorem toP_ok (h : AH) : ∀ (d : D) (n : Nat), okD d = true → dp d < n → toPy h n d = some (toP d)
  | d, 0, _, hn => by omega
  | .non, n + 1, _, _ => by simp [toPy, toP]
  | .bl b, n + 1, _, _ => by simp [toPy, toP]
  | .int i, n + 1, _, _ => by simp [toPy, toP]
  | .str x, n + 1, _, _ => by simp [toPy, toP]
  | .tup xs, n + 1, ho, hn => by
    have e := toPs_ok h xs n ho (by simp [dp] at hn; omega)
    simp [toPy, toP, e]
  | .lst xs, n + 1, ho, hn => by
    have e := toPs_ok h xs n ho (by simp [dp] at hn; omega)
    simp [toPy, toP, e]
  | .dic [] [], n + 1, _, _ => by simp [toPy, toP, allM]
  | .dic [.inr x] [d], n + 1, ho, hn => by
    have e := toP_ok h d n (Bool.and_eq_true_iff.mp ho).2 (by simp [dp, dps] at hn; omega)
    simp [toPy, toP, allM, e, keyPy]
  | .dic [.inr x] [], n + 1, ho, _ => by simp [okD] at ho
  | .dic [.inr x] (_ :: _ :: _), n + 1, ho, _ => by simp [okD] at ho
  | .dic [.inl x] _, n + 1, ho, _ => by simp [okD] at ho
  | .dic (_ :: _ :: _) _, n + 1, ho, _ => by simp [okD] at ho
  | .dic [] (_ :: _), n + 1, ho, _ => by simp [okD] at ho
  | .scr _, n + 1, ho, _ => by simp [okD] at ho
  | .ref _, n + 1, ho, _ => by simp [okD] at ho
  | .ty _, n + 1, ho, _ => by simp [okD] at ho
  | .glo _, n + 1, ho, _ => by simp [okD] at ho
  | .exc _ _ _, n + 1, ho, _ => by simp [okD] at ho
theorem toPs_ok (h : AH) : ∀ (xs : List D) (n : Nat), okDs xs = true → dps xs < n → allM (toPy h n) xs = some (toPs xs)
  | [], n, _, _ => rfl
  | x :: xs, n, ho, hn => by
    have h1 := Bool.and_eq_true_iff.mp ho
    have e1 := toP_ok h x n h1.1 (by simp [dps] at hn; omega)
    have e2 := toPs_ok h xs n h1.2 (by simp [dps] at hn; omega)
    simp [allM, e1, e2, toPs]
end
mutual
theorem toP_dp : ∀ d : D, okD d = true → (toP d).depth ≤ dp d
  | .non, _ => by simp [toP, PyData.depth]
  | .bl b, _ => by simp [toP, PyData.depth]
  | .int i, _ => by simp [toP, PyData.depth]
  | .str x, _ => by simp [toP, PyData.depth]
  | .tup xs, ho => by
    have := toPs_dp xs ho
    simp [toP, PyData.depth, dp]; omega
  | .lst xs, ho => by
    have := toPs_dp xs ho
    simp [toP, PyData.depth, dp]; omega
  | .dic [] [], _ => by simp [toP, PyData.depth, PyData.depthKv, dp]
  | .dic [.inr x] [d], ho => by
    have := toP_dp d (Bool.and_eq_true_iff.mp ho).2
    simp [toP, PyData.depth, PyData.depthKv, dp, dps]; omega
  | .dic [.inr x] [], ho => by simp [okD] at ho
  | .dic [.inr x] (_ :: _ :: _), ho => by simp [okD] at ho
  | .dic [.inl x] _, ho => by simp [okD] at ho
  | .dic (_ :: _ :: _) _, ho => by simp [okD] at ho
  | .dic [] (_ :: _), ho => by simp [okD] at ho
  | .scr _, ho => by simp [okD] at ho
  | .ref _, ho => by simp [okD] at ho
  | .ty _, ho => by simp [okD] at ho
  | .glo _, ho => by simp [okD] at ho
  | .exc _ _ _, ho => by simp [okD] at ho
theorem toPs_dp : ∀ xs : List D, okDs xs = true → PyData.depthAll (toPs xs) ≤ dps xs
  | [], _ => by simp [toPs, PyData.depthAll]
  | x :: xs, ho => by
    have h1 := Bool.and_eq_true_iff.mp ho
    have e1 := toP_dp x h1.1
    have e2 := toPs_dp xs h1.2
    simp [toPs, PyData.depthAll, dps]; omega
end
mutual
theorem toP_show : ∀ d : D, okD d = true → (toP d).showable = true
  | .non, _ => by simp [toP, PyData.showable]
  | .bl b, _ => by simp [toP, PyData.showable]
  | .int i, ho => by
    have h1 : i.natAbs < 10 ^ 80 := of_decide_eq_true ho
    have : i.natAbs.log2 < 1920 := by
      by_cases z : i.natAbs = 0
      · rw [z]; decide
      · exact Nat.lt_trans ((Nat.log2_lt (k := 300) z).mpr (Nat.lt_of_lt_of_le h1 (by decide +kernel))) (by decide)
    simp [toP, PyData.showable, this]
  | .str x, _ => by simp [toP, PyData.showable]
  | .tup xs, ho => by simp [toP, PyData.showable, toPs_show xs ho]
  | .lst xs, ho => by simp [toP, PyData.showable, toPs_show xs ho]
  | .dic [] [], _ => by simp [toP, PyData.showable, PyData.showableKv]
  | .dic [.inr x] [d], ho => by simp [toP, PyData.showable, PyData.showableKv, toP_show d (Bool.and_eq_true_iff.mp ho).2]
  | .dic [.inr x] [], ho => by simp [okD] at ho
  | .dic [.inr x] (_ :: _ :: _), ho => by simp [okD] at ho
  | .dic [.inl x] _, ho => by simp [okD] at ho
  | .dic (_ :: _ :: _) _, ho => by simp [okD] at ho
  | .dic [] (_ :: _), ho => by simp [okD] at ho
  | .scr _, ho => by simp [okD] at ho
  | .ref _, ho => by simp [okD] at ho
  | .ty _, ho => by simp [okD] at ho
  | .glo _, ho => by simp [okD] at ho
  | .exc _ _ _, ho => by simp [okD] at ho
theorem toPs_show : ∀ xs : List D, okDs xs = true → PyData.showableAll (toPs xs) = true
  | [], _ => by simp [toPs, PyData.showableAll]
  | x :: xs, ho => by
    have h1 := Bool.and_eq_true_iff.mp ho
    simp [toPs, PyData.showableAll, toP_show x h1.1, toPs_show xs h1.2]
end
theorem len_app (a b : Str) : (a ++ b).length = a.length + b.length := Str.length_append a b
def lenS : List Str → Nat
  | [] => 0
  | x :: xs => x.length + 2 + lenS xs
theorem textFrom_le : ∀ (ts : List Str) (k : Nat) (acc : Str), (textFrom k acc ts).length ≤ acc.length + lenS ts
  | [], k, acc => by simp [textFrom, lenS]
  | t :: ts, k, acc => by
    unfold textFrom
    refine Nat.le_trans (textFrom_le ts (k + 1) _) ?_
    rw [len_app, len_app]
    have e : (Str.ofString (if k > 0 then ", " else "" : String)).length ≤ 2 := by split <;> decide +kernel
    show acc.length + _ + t.length + lenS ts ≤ acc.length + (t.length + 2 + lenS ts)
    omega
theorem join_le : ∀ ts : List Str, (Str.join ", " ts).length ≤ lenS ts
  | [] => by simp [Str.join, lenS, Str.empty, Str.length]
  | [x] => by simp [Str.join, lenS]
  | x :: y :: r => by
    show (x ++ (", " : Str) ++ Str.join ", " (y :: r)).length ≤ x.length + 2 + lenS (y :: r)
    rw [len_app, len_app]
    have e : ((", " : String) : Str).length = 2 := by decide +kernel
    have := join_le (y :: r)
    omega
theorem list_le (ts : List Str) : (listText ts).length ≤ lenS ts + 2 := by
  unfold listText
  rw [len_app]
  have := textFrom_le ts 0 "["
  have e1 : (("[" : String) : Str).length = 1 := by decide +kernel
  have e2 : (("]" : String) : Str).length = 1 := by decide +kernel
  omega
theorem tuple_le (ts : List Str) : (tupleText ts).length ≤ lenS ts + 3 := by
  unfold tupleText
  rw [len_app, len_app]
  have := join_le ts
  have e1 : (("(" : String) : Str).length = 1 := by decide +kernel
  have e2 : (Str.ofString (if ts.length == 1 then ",)" else ")" : String)).length ≤ 2 := by split <;> decide +kernel
  omega
theorem dict_le (ts : List Str) : (dictText ts).length ≤ lenS ts + 2 := by
  unfold dictText
  rw [len_app, len_app]
  have := join_le ts
  have e1 : (("{" : String) : Str).length = 1 := by decide +kernel
  have e2 : (("}" : String) : Str).length = 1 := by decide +kernel
  omega
theorem str_le {x : Str} (h : (x.cps.toList.all fun c => decide (c < 128)) = true) : (reprText x).length ≤ 10 * x.length + 2 :=
  StrLaws.reprText_len x fun c hc => Nat.lt_trans (of_decide_eq_true (List.all_eq_true.mp h c hc)) (by decide)
mutual
theorem toP_len : ∀ d : D, okD d = true → (toP d).shown.length ≤ wt d
  | .non, _ => by
    show (Str.ofString "None").length ≤ 90
    decide +kernel
  | .bl b, _ => by
    show ((if b then ("True" : Str) else ("False" : Str)) : Str).length ≤ 90
    cases b <;> decide +kernel
  | .int i, ho => by
    have h1 : i.natAbs < 10 ^ 80 := of_decide_eq_true ho
    show (Str.ofString (toString i)).length ≤ 90
    rw [ofString_length]
    have := int_text_length_le10 (k := 80) (by decide) h1
    omega
  | .str x, ho => by
    have := str_le ho
    show (reprText x).length ≤ 10 * x.length + 10
    omega
  | .tup xs, ho => by
    have h1 := toPs_len2 xs ho
    have h2 := tuple_le (PyData.shownAll (toPs xs))
    show (tupleText (PyData.shownAll (toPs xs))).length ≤ wts xs + 10
    omega
  | .lst xs, ho => by
    have h1 := toPs_len2 xs ho
    have h2 := list_le (PyData.shownAll (toPs xs))
    show (listText (PyData.shownAll (toPs xs))).length ≤ wts xs + 10
    omega
  | .dic [] [], _ => by
    have h2 := dict_le (PyData.shownKv [])
    show (dictText (PyData.shownKv [])).length ≤ 90
    simp [PyData.shownKv, lenS] at h2 ⊢
    omega
  | .dic [.inr x] [d], ho => by
    have h0 := Bool.and_eq_true_iff.mp ho
    have h1 := toP_len d h0.2
    have h2 := dict_le (PyData.shownKv [(.str x, toP d)])
    have h3 := str_le h0.1
    have e : lenS (PyData.shownKv [(.str x, toP d)]) = (reprText x).length + 2 + (toP d).shown.length + 2 := by
      show (reprText x ++ (": " : Str) ++ (toP d).shown).length + 2 + 0 = _
      rw [len_app, len_app]
      have e1 : ((": " : String) : Str).length = 2 := by decide +kernel
      omega
    show (dictText (PyData.shownKv [(.str x, toP d)])).length ≤ 10 * x.length + 20 + wt d
    omega
  | .dic [.inr x] [], ho => by simp [okD] at ho
  | .dic [.inr x] (_ :: _ :: _), ho => by simp [okD] at ho
  | .dic [.inl x] _, ho => by simp [okD] at ho
  | .dic (_ :: _ :: _) _, ho => by simp [okD] at ho
  | .dic [] (_ :: _), ho => by simp [okD] at ho
  | .scr _, ho => by simp [okD] at ho
  | .ref _, ho => by simp [okD] at ho
  | .ty _, ho => by simp [okD] at ho
  | .glo _, ho => by simp [okD] at ho
  | .exc _ _ _, ho => by simp [okD] at ho
theorem toPs_len2 : ∀ xs : List D, okDs xs = true → lenS (PyData.shownAll (toPs xs)) ≤ wts xs
  | [], _ => Nat.le_refl _
  | x :: xs, ho => by
    have h1 := Bool.and_eq_true_iff.mp ho
    have e1 := toP_len x h1.1
    have e2 := toPs_len2 xs h1.2
    show (toP x).shown.length + 2 + lenS (PyData.shownAll (toPs xs)) ≤ wt x + 2 + wts xs
    omega
end
/-- a thing of the laws -/
structure Tg1 (n : Nat) (d : D) : Prop where
  ok : okD d = true
  dp : dp d ≤ 50
  wt : wt d ≤ n
theorem Tg1.mono {n m : Nat} {d : D} (t : Tg1 n d) (h : n ≤ m) : Tg1 m d := ⟨t.ok, t.dp, Nat.le_trans t.wt h⟩
theorem Tg1.repr {n : Nat} {d : D} (t : Tg1 n d) (hn : n ≤ 16000000) (h : AH) : Bi.run .repr [d] h = .ok (.str (toP d).shown) h := by
  show (match toPy h 64 d with
    | some p => okb (p.showable && (decide (p.shown.length ≤ sizeLine) && decide (p.depth ≤ 64))) (.ok (.str p.shown) h)
    | none => .bad) = _
  rw [toP_ok h d 64 t.ok (by have := t.dp; omega)]
  have h1 := toP_show d t.ok
  have h2 : (toP d).shown.length ≤ sizeLine := Nat.le_trans (toP_len d t.ok) (Nat.le_trans t.wt (Nat.le_trans hn (by decide)))
  have h3 : (toP d).depth ≤ 64 := by have := toP_dp d t.ok; have := t.dp; omega
  show okb ((toP d).showable && (decide ((toP d).shown.length ≤ sizeLine) && decide ((toP d).depth ≤ 64))) _ = _
  rw [h1, decide_eq_true h2, decide_eq_true h3]
  rfl
theorem Tg1.kd {n : Nat} {d : D} (t : Tg1 n d) : kd d = true := by
  have := t.ok
  cases d <;> first | rfl | (simp [okD] at this)
theorem Tg1.len {n : Nat} {xs : List D} (t : Tg1 n (.tup xs)) : xs.length ≤ n := by
  have h := t.wt
  simp only [Mp.wt] at h
  have := wts_len (xs := xs)
  omega
theorem Tg1.part {n : Nat} {xs : List D} (t : Tg1 n (.tup xs)) : ∀ x ∈ xs, Tg1 n x := fun x hx => by
  have h := t.wt
  have h2 := t.dp
  simp only [Mp.wt, Mp.dp] at h h2
  have := wt_mem x hx
  have := dps_mem.mp (Nat.le_refl (dps xs)) x hx
  exact ⟨okDs_mem t.ok x hx, by omega, by omega⟩
theorem Tg1.strLen {n : Nat} {x : Str} (t : Tg1 n (.str x)) : 10 * x.length ≤ n := by
  have h := t.wt
  simp only [Mp.wt] at h
  omega
theorem Tg1.shrt {n : Nat} {d : D} (t : Tg1 n d) (hn : n ≤ 16000000) : shrt d = true := by
  cases d with
  | str x =>
    have := t.strLen
    exact decide_eq_true (Nat.le_trans (show x.length ≤ 16000000 by omega) (by decide))
  | tup xs => exact List.all_eq_true.mpr fun x hx => (t.part x hx).kd
  | _ => rfl
theorem Tg1.tup {n m : Nat} {xs : List D} (h : ∀ x ∈ xs, okD x = true ∧ Mp.dp x ≤ 49) (w : wts xs + 10 ≤ m) : Tg1 m (.tup xs) := by
  refine ⟨okDs_of fun x hx => (h x hx).1, ?_, by simpa [Mp.wt] using w⟩
  have := dps_mem.mpr fun x hx => (h x hx).2
  simp only [Mp.dp]
  omega
end Mp

set_option Elab.async false
set_option linter.all false
set_option autoImplicit false
set_option maxRecDepth 100000
set_option maxHeartbeats 4000000
namespace Mp
open PySem PySem.Spec L2
/-! ### draws of the second shape -/
def drawG2 : Mp.S := (.ife (.cmp .Gt (.ix (.v 0) (.k (.int 2))) (.k (.int 0))) (.seq (.asg 5 (.bin false .Mod (.bi .int (.cons (.ix (.v 0) (.k (.int 2))) .nil)) (.v 1)))
  (.seq (.set (.v 0) (.k (.int 2)) (.bin false .FloorDiv (.ix (.v 0) (.k (.int 2))) (.v 1)))
  (.seq (.ret (.v 5))
  .nil))) .nil)
def drawC2 : Mp.S := (.ife (.cmp .NotEq (.ix (.v 0) (.k (.int 0))) (.lst false .nil)) (.seq (.asg 3 (.ix (.ix (.v 0) (.k (.int 0))) (.bin false .Mod (.bi .int (.cons (.v 2) .nil)) (.bi .len (.cons (.ix (.v 0) (.k (.int 0))) .nil)))))
  .nil) .nil)
def drawB2 : Mp.S := (.ife (.andL (.cons (.cmp .Lt (.v 2) (.bi .len (.cons (.ix (.v 0) (.k (.int 0))) .nil))) (.cons (.cmp .GtE (.bi .abs (.cons (.v 3) .nil)) (.bin false .Pow (.k (.int 10)) (.k (.int 18)))) .nil))) (.seq (.asg 6 (.bin false .Add (.bin false .Mult (.k (.int 2)) (.bi .abs (.cons (.v 3) .nil))) (.bi .int (.cons (.cmp .Lt (.v 3) (.k (.int 0))) .nil))))
  (.seq (.set (.v 0) (.k (.int 2)) (.bin false .FloorDiv (.v 6) (.v 1)))
  (.seq (.ret (.bin false .Mod (.bi .int (.cons (.v 6) .nil)) (.v 1)))
  .nil))) .nil)
def drawN1 (m1 x3 x4 m2 : Int) : Mp.E := (.bin false .Mod (.bin false .Pow (.bi .int (.cons (.bin false .Add (.bin false .Add (.bin false .Mod (.bi .int (.cons (.v 3) .nil)) (.k (.int m1))) (.bin false .Mult (.k (.int x3)) (.v 2))) (.k (.int x4))) .nil)) (.k (.int 5))) (.k (.int m2)))
def drawN2 (x5 x6 x7 m3 : Int) : Mp.E := (.bin false .Mod (.bin false .Pow (.bi .int (.cons (.bin false .Add (.bin false .Add (.bin false .Mult (.v 4) (.bin false .Add (.v 2) (.k (.int x5)))) (.bin false .Mult (.bin false .Mult (.k (.int x6)) (.v 2)) (.v 2))) (.k (.int x7))) .nil)) (.k (.int 3))) (.k (.int m3)))
def drawD (x1 x2 m1 x3 x4 m2 x5 x6 x7 m3 : Int) : Mp.S := (.seq drawG2
  (.seq (.asg 2 (.ix (.v 0) (.k (.int 1))))
  (.seq (.set (.v 0) (.k (.int 1)) (.bin false .Add (.v 2) (.k (.int 1))))
  (.seq (.asg 3 (.bin false .Add (.bin false .Mult (.k (.int x1)) (.v 2)) (.k (.int x2))))
  (.seq drawC2
  (.seq drawB2
  (.seq (.asg 4 (drawN1 m1 x3 x4 m2))
  (.seq (.asg 4 (drawN2 x5 x6 x7 m3))
  (.seq (.ret (.bin false .Mod (.bi .int (.cons (.bin false .FloorDiv (.v 4) (.k (.int 32))) .nil)) (.v 1)))
  .nil)))))))))
section
variable {M : Mdl} {c : List Int} {a g b z : Int} {t : AH} {x1 x2 m1 x3 x4 m2 x5 x6 x7 m3 : Int}
theorem drawG2_pos (hb : 0 < b) (hb3 : b < 2 ^ 64) (hg : 0 < g) (r : List (Option D)) : ex M drawG2 (some (.ref 0) :: some (.int b) :: none :: none :: none :: none :: r) (penO c a g :: t) = .rt (.int (g % b)) (penO c a (g / b) :: t) := by
  simp only [drawG2, ex, ev, evs, R.bind, R.toS, RS.andThen, List.getElem?_cons_zero, List.getElem?_cons_succ, List.set_cons_zero, List.set_cons_succ, pen_ix2, c_gt, truR_bl, decide_eq_true hg, bi_int, b_mod, b_fdiv, mod_ok hb, fdiv_ok hb hb3, pen_set2]
theorem drawG2_no (hg : ¬ 0 < g) (r : List (Option D)) : ex M drawG2 (some (.ref 0) :: r) (penO c a g :: t) = .nx (some (.ref 0) :: r) (penO c a g :: t) := by
  simp only [drawG2, ex, ev, evs, R.bind, R.toS, RS.andThen, List.getElem?_cons_zero, pen_ix2, c_gt, truR_bl, decide_eq_false hg]
theorem drawC2_ok {w n : Int} (r : List (Option D)) : ∃ z : Int, ex M drawC2 (some (.ref 0) :: some (.int b) :: some (.int a) :: some (.int w) :: r) (penO c n g :: t) = .nx (some (.ref 0) :: some (.int b) :: some (.int a) :: some (.int z) :: r) (penO c n g :: t) := by
  cases hc : c with
  | nil =>
    refine ⟨w, ?_⟩
    have e := ne_cells [] (penO [] n g :: t)
    have e : neD (.lst (List.map D.int [])) (.lst []) (penO [] n g :: t) = .ok (.bl false) (penO [] n g :: t) := e
    simp only [drawC2, ex, ev, evs, R.bind, R.toS, RS.andThen, List.getElem?_cons_zero, List.getElem?_cons_succ, pen_ix0, c_ne, newL, okb, List.length_nil, Nat.zero_le, decide_true, e, truR_bl]
  | cons y ys =>
    have hl : (0 : Int) < ((y :: ys).map D.int).length := by simp
    obtain ⟨j, hj⟩ : ∃ j : Nat, a % (((y :: ys).map D.int).length : Int) = j := ⟨_, (Int.toNat_of_nonneg (Int.emod_nonneg _ (by omega))).symm⟩
    have jl : j < (y :: ys).length := by
      have := Int.emod_lt_of_pos a hl
      rw [hj, List.length_map] at this
      exact Int.ofNat_lt.mp this
    have hx : ((y :: ys).map D.int)[j]? = some (.int ((y :: ys)[j]'jl)) := by
      rw [List.getElem?_map, List.getElem?_eq_getElem jl]
      rfl
    refine ⟨(y :: ys)[j]'jl, ?_⟩
    have e := ne_cells (y :: ys) (penO (y :: ys) n g :: t)
    have e : neD (.lst (List.map D.int (y :: ys))) (.lst []) (penO (y :: ys) n g :: t) = .ok (.bl true) (penO (y :: ys) n g :: t) := e
    have i := ixP (d := .lst ((y :: ys).map .int)) (h := penO (y :: ys) n g :: t) (xs := (y :: ys).map .int) rfl rfl hj hx (fun _ q => by cases q)
    simp only [drawC2, ex, ev, evs, R.bind, R.toS, RS.andThen, List.getElem?_cons_zero, List.getElem?_cons_succ, List.set_cons_zero, List.set_cons_succ, pen_ix0, c_ne, newL, okb, List.length_nil, Nat.zero_le, decide_true, e, truR_bl, bi_int, b_mod, bi_lenl, mod_ok hl, i]
def grt2 (z : Int) : Int := 2 * (if z < 0 then -z else z) + (if decide (z < 0) = true then 1 else 0)
theorem grt2_pos : 0 ≤ grt2 z := by
  unfold grt2
  have e : (0 : Int) ≤ (if decide (z < 0) = true then 1 else 0) := by split <;> omega
  have f : (0 : Int) ≤ (if z < 0 then -z else z) := by split <;> omega
  omega
theorem drawB2_big (hb : 0 < b) (hb3 : b < 2 ^ 64) (h1 : a < ((c.map D.int).length : Int)) (h2 : (10 : Int) ^ 18 ≤ (if z < 0 then -z else z)) {n : Int} : ex M drawB2 [some (.ref 0), some (.int b), some (.int a), some (.int z), none, none, none] (penO c n g :: t) = .rt (.int (grt2 z % b)) (penO c n (grt2 z / b) :: t) := by
  simp only [drawB2, ex, ev, evs, evAnd, R.bind, R.toS, RS.andThen, List.getElem?_cons_zero, List.getElem?_cons_succ, List.set_cons_zero, List.set_cons_succ, pen_ix0, bi_lenl, c_lt, decide_eq_true h1, bi_abs, b_pow, pow18, c_ge, decide_eq_true h2, truR_bl, b_mul, mul2, bi_intb, b_add, b_fdiv, fdiv_ok hb hb3, pen_set2, bi_int, b_mod, mod_ok hb, grt2]
theorem drawB2_no {n : Int} (h : ¬ (a < ((c.map D.int).length : Int) ∧ (10 : Int) ^ 18 ≤ (if z < 0 then -z else z))) (r : List (Option D)) : ex M drawB2 (some (.ref 0) :: some (.int b) :: some (.int a) :: some (.int z) :: r) (penO c n g :: t) = .nx (some (.ref 0) :: some (.int b) :: some (.int a) :: some (.int z) :: r) (penO c n g :: t) := by
  by_cases h1 : a < ((c.map D.int).length : Int)
  · have h2 : ¬ (10 : Int) ^ 18 ≤ (if z < 0 then -z else z) := fun q => h ⟨h1, q⟩
    simp only [drawB2, ex, ev, evs, evAnd, R.bind, R.toS, RS.andThen, List.getElem?_cons_zero, List.getElem?_cons_succ, pen_ix0, bi_lenl, c_lt, decide_eq_true h1, bi_abs, b_pow, pow18, c_ge, decide_eq_false h2, truR_bl]
  · simp only [drawB2, ex, ev, evs, evAnd, R.bind, R.toS, RS.andThen, List.getElem?_cons_zero, List.getElem?_cons_succ, pen_ix0, bi_lenl, c_lt, decide_eq_false h1, truR_bl]
theorem drawN1_ok (C : DrC x1 x2 m1 x3 x4 m2 x5 x6 x7 m3) (ha : 0 ≤ a) (ha2 : a < 1000000) (r : List (Option D)) (h : AH) : ∃ y : Int, 0 ≤ y ∧ y < m2 ∧ ev M (drawN1 m1 x3 x4 m2) (some (.ref 0) :: some (.int b) :: some (.int a) :: some (.int z) :: r) h = .ok (.int y) h := by
  have k1 := Int.emod_nonneg z (show m1 ≠ 0 by have := C.q1; omega)
  have k2 := Int.emod_lt_of_pos z C.q1.1
  have k3 : 0 ≤ x3 * a := Int.mul_nonneg C.p3.1 ha
  have k4 : x3 * a ≤ 100000 * 1000000 := Int.mul_le_mul (by have := C.p3; omega) (by omega) ha (by omega)
  have kk : (z % m1 + x3 * a + x4).natAbs < 2 ^ 64 := by
    have := C.p4
    have := C.q1
    omega
  have p' : ∀ h, powD (.int (z % m1 + x3 * a + x4)) (.int 5) h = .ok (.int ((z % m1 + x3 * a + x4) ^ 5)) h := fun h => pow_ok (i := z % m1 + x3 * a + x4) (n := 5) (h := h) kk (by decide)
  refine ⟨(z % m1 + x3 * a + x4) ^ 5 % m2, Int.emod_nonneg _ (by have := C.q2; omega), Int.emod_lt_of_pos _ C.q2.1, ?_⟩
  have m := fun (m : Bool) (h : AH) => mul_ok (m := m) (i := x3) (j := a) (h := h) (by have := C.p3; omega)
  simp only [drawN1, ev, evs, R.bind, List.getElem?_cons_zero, List.getElem?_cons_succ, bi_int, b_mod, b_mul, b_pow, b_add, m, mod_ok C.q1.1, p', mod_ok C.q2.1]
theorem drawN2_ok (C : DrC x1 x2 m1 x3 x4 m2 x5 x6 x7 m3) (ha : 0 ≤ a) (ha2 : a < 1000000) {w : Option D} {y : Int} (h1 : 0 ≤ y) (h2 : y < m2) (r : List (Option D)) (h : AH) : ∃ y' : Int, 0 ≤ y' ∧ y' < m3 ∧ ev M (drawN2 x5 x6 x7 m3) (some (.ref 0) :: some (.int b) :: some (.int a) :: w :: some (.int y) :: r) h = .ok (.int y') h := by
  have k0 : 0 ≤ y * (a + x5) := Int.mul_nonneg h1 (by have := C.p5; omega)
  have k1 : y * (a + x5) ≤ 2147483648 * 2100000 := Int.mul_le_mul (by have := C.q2; omega) (by have := C.p5; omega) (by have := C.p5; omega) (by omega)
  have k2 : 0 ≤ x6 * a := Int.mul_nonneg C.p6.1 ha
  have k3 : x6 * a ≤ 100000 * 1000000 := Int.mul_le_mul (by have := C.p6; omega) (by omega) ha (by omega)
  have k4 : 0 ≤ x6 * a * a := Int.mul_nonneg k2 ha
  have k5 : x6 * a * a ≤ 100000 * 1000000 * 1000000 := Int.mul_le_mul k3 (by omega) ha (by omega)
  have kk : (y * (a + x5) + x6 * a * a + x7).natAbs < 2 ^ 64 := by
    have := C.p7
    omega
  have p : ∀ h, powD (.int (y * (a + x5) + x6 * a * a + x7)) (.int 3) h = .ok (.int ((y * (a + x5) + x6 * a * a + x7) ^ 3)) h := fun h => pow_ok (i := y * (a + x5) + x6 * a * a + x7) (n := 3) (h := h) kk (by decide)
  refine ⟨(y * (a + x5) + x6 * a * a + x7) ^ 3 % m3, Int.emod_nonneg _ (by have := C.q3; omega), Int.emod_lt_of_pos _ C.q3.1, ?_⟩
  have e1 := fun (m : Bool) (h : AH) => mul_ok (m := m) (i := x6) (j := a) (h := h) (by have := C.p6; omega)
  have e2 := fun (m : Bool) (h : AH) => mul_ok2 (m := m) (i := x6 * a) (j := a) (h := h) (by omega)
  have e3 := fun (m : Bool) (h : AH) => mul_ok (m := m) (i := y) (j := a + x5) (h := h) (by have := C.q2; omega)
  simp only [drawN2, ev, evs, R.bind, List.getElem?_cons_zero, List.getElem?_cons_succ, bi_int, b_mod, b_mul, b_pow, b_add, e1, e2, e3, p, mod_ok C.q3.1]
theorem drawD_ok (C : DrC x1 x2 m1 x3 x4 m2 x5 x6 x7 m3) (hb : 0 < b) (hb2 : b < 2 ^ 60) (ha : 0 ≤ a) (ha2 : a < 1000000) (hg : 0 ≤ g) :
    ∃ d a' g', ex M (drawD x1 x2 m1 x3 x4 m2 x5 x6 x7 m3) [some (.ref 0), some (.int b), none, none, none, none, none] (penO c a g :: t) = .rt (.int d) (penO c a' g' :: t) ∧ 0 ≤ d ∧ d < b ∧ 0 ≤ a' ∧ a' ≤ a + 1 ∧ 0 ≤ g' := by
  have hb3 : b < 2 ^ 64 := by omega
  by_cases hg0 : 0 < g
  · refine ⟨g % b, a, g / b, ?_, Int.emod_nonneg _ (by omega), Int.emod_lt_of_pos _ hb, ha, by omega, Int.ediv_nonneg hg (by omega)⟩
    rw [drawD, ex_seq, drawG2_pos hb hb3 hg0]
    rfl
  · obtain ⟨z, hz⟩ := drawC2_ok (M := M) (c := c) (a := a) (g := g) (b := b) (t := t) (w := x1 * a + x2) (n := a + 1) [none, none, none]
    have m1' : ∀ (m : Bool) (h : AH), mulD m (.int x1) (.int a) h = .ok (.int (x1 * a)) h := fun m h => mul_ok (by have := C.p1; omega)
    have start : ∀ q : Mp.S, ex M (.seq drawG2 (.seq (.asg 2 (.ix (.v 0) (.k (.int 1)))) (.seq (.set (.v 0) (.k (.int 1)) (.bin false .Add (.v 2) (.k (.int 1)))) (.seq (.asg 3 (.bin false .Add (.bin false .Mult (.k (.int x1)) (.v 2)) (.k (.int x2)))) (.seq drawC2 q)))))
        [some (.ref 0), some (.int b), none, none, none, none, none] (penO c a g :: t) = ex M q [some (.ref 0), some (.int b), some (.int a), some (.int z), none, none, none] (penO c (a + 1) g :: t) := by
      intro q
      simp only [ex_seq, drawG2_no hg0, RS.andThen, ex, ev, evs, R.bind, R.toS, List.getElem?_cons_zero, List.getElem?_cons_succ, List.set_cons_zero, List.set_cons_succ, pen_ix1, b_add, pen_set1, b_mul, m1', hz]
    rw [drawD, start]
    by_cases big : a < ((c.map D.int).length : Int) ∧ (10 : Int) ^ 18 ≤ (if z < 0 then -z else z)
    · refine ⟨grt2 z % b, a + 1, grt2 z / b, ?_, Int.emod_nonneg _ (by omega), Int.emod_lt_of_pos _ hb, by omega, by omega, Int.ediv_nonneg grt2_pos (by omega)⟩
      rw [ex_seq, drawB2_big hb hb3 big.1 big.2]
      rfl
    · obtain ⟨y, y1, y2, ye⟩ := drawN1_ok (M := M) (b := b) (z := z) C ha ha2 [none, none, none] (penO c (a + 1) g :: t)
      obtain ⟨u, u1, u2, ue⟩ := drawN2_ok (M := M) (b := b) (w := some (.int z)) C ha ha2 y1 y2 [none, none] (penO c (a + 1) g :: t)
      refine ⟨u / 32 % b, a + 1, g, ?_, Int.emod_nonneg _ (by omega), Int.emod_lt_of_pos _ hb, by omega, by omega, hg⟩
      have f := fun h => fdiv_ok (i := u) (j := 32) (h := h) (by omega) (by omega)
      simp only [ex_seq, drawB2_no big, RS.andThen, ex_asg, ye, R.toS, List.set_cons_zero, List.set_cons_succ, ue]
      simp only [ex, ev, evs, R.bind, R.toS, RS.andThen, List.getElem?_cons_zero, List.getElem?_cons_succ, b_fdiv, f, bi_int, b_mod, mod_ok hb]
end
/-- a law's draw, of whatever shape -/
structure Draws (L : Lw) : Prop where
  ok : ∀ (K : PySem.W.Frag) (k : Nat) (c : List Int) (n : Int) (t h : AH) (b : Int), Pen c n t h → n < 1000000 → 0 < b → b < 2 ^ 60 → ∃ d h', L.phi K (k + 1) "_law_draw" [.ref 0, .int b] h = .ok (.int d) h' ∧ 0 ≤ d ∧ d < b ∧ Pen c (n + 1) t h'
theorem Draws.ofA {L : Lw} (D0 : HasDraw L) : Draws L := ⟨fun K k c n t h b p hn hb hb2 => draw_k D0 p hn hb hb2⟩
theorem Draws.ofB {L : Lw} {dd : DD} {x1 x2 m1 x3 x4 m2 x5 x6 x7 m3 : Int} (e1 : findD "_law_draw" L.T = some dd) (e2 : dd.N.length = 7) (e3 : dd.n = 2) (e4 : dd.body = drawD x1 x2 m1 x3 x4 m2 x5 x6 x7 m3) (C : DrC x1 x2 m1 x3 x4 m2 x5 x6 x7 m3) : Draws L := ⟨fun K k c n t h b p hn hb hb2 => by
  obtain ⟨a, g, rfl, h2, h3, h4⟩ := p
  obtain ⟨z, a', g', q1, q2, q3, q4, q5, q6⟩ := drawD_ok (M := L.m K k) (c := c) (a := a) (g := g) (b := b) (t := t) C hb hb2 h2 (by omega) h4
  refine ⟨z, penO c a' g' :: t, ?_, q2, q3, a', g', rfl, q4, by omega, q6⟩
  rw [phi_at e1, fnEv_at e2 (by rw [e3]; rfl), e3, e4]
  show (ex (L.m K k) _ [some (.ref 0), some (.int b), none, none, none, none, none] (penO c a g :: t)).toR = _
  rw [q1]
  rfl⟩
/-! ### loops -/
theorem forLoop_all {f : D → Ev → AH → RS} {I : Ev → AH → Prop} : ∀ (xs : List D) (ρ : Ev) (h : AH), (∀ x ∈ xs, ∀ ρ h, I ρ h → ∃ ρ' h', f x ρ h = .nx ρ' h' ∧ I ρ' h') → I ρ h → ∃ ρ' h', forLoop f (fun _ => true) xs ρ h = .nx ρ' h' ∧ I ρ' h'
  | [], ρ, h, _, hi => ⟨ρ, h, rfl, hi⟩
  | x :: xs, ρ, h, st, hi => by
    obtain ⟨ρ1, h1, e1, i1⟩ := st x (List.mem_cons_self ..) ρ h hi
    obtain ⟨ρ2, h2, e2, i2⟩ := forLoop_all xs ρ1 h1 (fun y hy => st y (List.mem_cons_of_mem _ hy)) i1
    exact ⟨ρ2, h2, by simp only [forLoop, e1, e2], i2⟩
/-- .. with a count -/
theorem forLoop_cnt {f : D → Ev → AH → RS} {I : Nat → Ev → AH → Prop} : ∀ (xs : List D) (i : Nat) (ρ : Ev) (h : AH), (∀ x ∈ xs, ∀ j ρ h, j < i + xs.length → I j ρ h → ∃ ρ' h', f x ρ h = .nx ρ' h' ∧ I (j + 1) ρ' h') → I i ρ h → ∃ ρ' h', forLoop f (fun _ => true) xs ρ h = .nx ρ' h' ∧ I (i + xs.length) ρ' h'
  | [], i, ρ, h, _, hi => ⟨ρ, h, rfl, hi⟩
  | x :: xs, i, ρ, h, st, hi => by
    obtain ⟨ρ1, h1, e1, i1⟩ := st x (List.mem_cons_self ..) i ρ h (by simp) hi
    obtain ⟨ρ2, h2, e2, i2⟩ := forLoop_cnt xs (i + 1) ρ1 h1 (fun y hy j ρ h hj hI => st y (List.mem_cons_of_mem _ hy) j ρ h (by simp; omega) hI) i1
    refine ⟨ρ2, h2, by simp only [forLoop, e1, e2], ?_⟩
    have : i + (x :: xs).length = i + 1 + xs.length := by simp; omega
    rw [this]
    exact i2
theorem all_bl {α : Type} (f : α → Bool) (xs : List α) (h : AH) : Bi.run .all [.lst (xs.map fun x => .bl (f x))] h = .ok (.bl (xs.all f)) h := by
  have q : ∀ xs : List α, allM blD (xs.map fun x => .bl (f x)) = some (xs.map f) := by
    intro xs
    induction xs with
    | nil => rfl
    | cons c cs ih => simp [allM, blD, ih]
  show (match allM blD (xs.map fun x => .bl (f x)) with
      | some bs => R.ok (D.bl (bs.all id)) h
      | none => .bad) = _
  rw [q]
  simp [List.all_map]
end Mp

set_option Elab.async false
set_option linter.all false
set_option autoImplicit false
set_option maxRecDepth 100000
set_option maxHeartbeats 4000000
namespace Mp
open PySem PySem.Spec L2
/-! ### small steps that every law uses -/
section
variable {M : Mdl} {h : AH} {ρ : Ev} {r : R D} {d : D}
theorem okb0 : okb (decide (([] : List D).length ≤ sizeLine)) r = r := rfl
theorem okb1 {x0 : D} : okb (decide (([x0] : List D).length ≤ sizeLine)) r = r := rfl
theorem okb2 {x0 x1 : D} : okb (decide (([x0, x1] : List D).length ≤ sizeLine)) r = r := rfl
theorem okb3 {x0 x1 x2 : D} : okb (decide (([x0, x1, x2] : List D).length ≤ sizeLine)) r = r := rfl
theorem okb4 {x0 x1 x2 x3 : D} : okb (decide (([x0, x1, x2, x3] : List D).length ≤ sizeLine)) r = r := rfl
theorem okb5 {x0 x1 x2 x3 x4 : D} : okb (decide (([x0, x1, x2, x3, x4] : List D).length ≤ sizeLine)) r = r := rfl
theorem okb6 {x0 x1 x2 x3 x4 x5 : D} : okb (decide (([x0, x1, x2, x3, x4, x5] : List D).length ≤ sizeLine)) r = r := rfl
theorem okb7 {x0 x1 x2 x3 x4 x5 x6 : D} : okb (decide (([x0, x1, x2, x3, x4, x5, x6] : List D).length ≤ sizeLine)) r = r := rfl
theorem okb8 {x0 x1 x2 x3 x4 x5 x6 x7 : D} : okb (decide (([x0, x1, x2, x3, x4, x5, x6, x7] : List D).length ≤ sizeLine)) r = r := rfl
theorem okb9 {x0 x1 x2 x3 x4 x5 x6 x7 x8 : D} : okb (decide (([x0, x1, x2, x3, x4, x5, x6, x7, x8] : List D).length ≤ sizeLine)) r = r := rfl
theorem okb10 {x0 x1 x2 x3 x4 x5 x6 x7 x8 x9 : D} : okb (decide (([x0, x1, x2, x3, x4, x5, x6, x7, x8, x9] : List D).length ≤ sizeLine)) r = r := rfl
theorem okb11 {x0 x1 x2 x3 x4 x5 x6 x7 x8 x9 x10 : D} : okb (decide (([x0, x1, x2, x3, x4, x5, x6, x7, x8, x9, x10] : List D).length ≤ sizeLine)) r = r := rfl
theorem okb12 {x0 x1 x2 x3 x4 x5 x6 x7 x8 x9 x10 x11 : D} : okb (decide (([x0, x1, x2, x3, x4, x5, x6, x7, x8, x9, x10, x11] : List D).length ≤ sizeLine)) r = r := rfl
theorem okb13 {x0 x1 x2 x3 x4 x5 x6 x7 x8 x9 x10 x11 x12 : D} : okb (decide (([x0, x1, x2, x3, x4, x5, x6, x7, x8, x9, x10, x11, x12] : List D).length ≤ sizeLine)) r = r := rfl
theorem okb14 {x0 x1 x2 x3 x4 x5 x6 x7 x8 x9 x10 x11 x12 x13 : D} : okb (decide (([x0, x1, x2, x3, x4, x5, x6, x7, x8, x9, x10, x11, x12, x13] : List D).length ≤ sizeLine)) r = r := rfl
theorem okb15 {x0 x1 x2 x3 x4 x5 x6 x7 x8 x9 x10 x11 x12 x13 x14 : D} : okb (decide (([x0, x1, x2, x3, x4, x5, x6, x7, x8, x9, x10, x11, x12, x13, x14] : List D).length ≤ sizeLine)) r = r := rfl
theorem okb16 {x0 x1 x2 x3 x4 x5 x6 x7 x8 x9 x10 x11 x12 x13 x14 x15 : D} : okb (decide (([x0, x1, x2, x3, x4, x5, x6, x7, x8, x9, x10, x11, x12, x13, x14, x15] : List D).length ≤ sizeLine)) r = r := rfl
theorem okb17 {x0 x1 x2 x3 x4 x5 x6 x7 x8 x9 x10 x11 x12 x13 x14 x15 x16 : D} : okb (decide (([x0, x1, x2, x3, x4, x5, x6, x7, x8, x9, x10, x11, x12, x13, x14, x15, x16] : List D).length ≤ sizeLine)) r = r := rfl
theorem newF {xs : List D} : newL false xs h = .ok (.lst xs) h := rfl
theorem slT_ok {m : Bool} {xs : List D} {lo hi : Option Int} : slD m (.tup xs) lo hi h = .ok (.tup (cutD xs lo hi)) h := rfl
theorem eq_s {x y : Str} : cop .Eq (.str x) (.str y) h = .ok (.bl (decide (x = y))) h := rfl
theorem eq_t0 {xs : List D} : cop .Eq (.tup xs) (.tup []) h = .ok (.bl xs.isEmpty) h := rfl
theorem ne_t0 {xs : List D} : cop .NotEq (.tup xs) (.tup []) h = .ok (.bl (!xs.isEmpty)) h := rfl
theorem ne_l0 {xs : List D} : cop .NotEq (.lst xs) (.lst []) h = .ok (.bl (!xs.isEmpty)) h := rfl
theorem isN_ok : cop .Is d .non h = .ok (.bl (Mp.isNon d)) h := by
  show R.ok (D.bl (false.xor (Mp.isNon d))) h = _
  simp
theorem isNN_ok : cop .IsNot d .non h = .ok (.bl (!Mp.isNon d)) h := by
  show R.ok (D.bl (true.xor (Mp.isNon d))) h = _
  simp
theorem ix0 {x : D} {xs : List D} : ixD (.tup (x :: xs)) (.int 0) h = .ok x h := ixP (xs := x :: xs) (j := 0) rfl rfl rfl rfl (fun _ q => by cases q)
theorem len_eq {n m : Nat} : (decide ((n : Int) = (m : Int))) = decide (n = m) := decide_eq_decide.mpr ⟨fun q => by omega, fun q => by omega⟩
theorem cut1 (xs : List D) : cutD xs (some 1) none = xs.tail := by
  unfold cutD HT.sIx
  cases xs with
  | nil => rfl
  | cons x xs =>
    simp [HT.sIx]
    try omega
theorem ixT {xs : List D} {i : Int} (h0 : 0 ≤ i) (h1 : i.toNat < xs.length) : ixD (.tup xs) (.int i) h = .ok (xs[i.toNat]'h1) h := ixP (xs := xs) (j := i.toNat) rfl rfl (Int.toNat_of_nonneg h0).symm (List.getElem?_eq_getElem h1) (fun _ q => by cases q)
theorem ixL {xs : List D} {i : Int} (h0 : 0 ≤ i) (h1 : i.toNat < xs.length) : ixD (.lst xs) (.int i) h = .ok (xs[i.toNat]'h1) h := ixP (xs := xs) (j := i.toNat) rfl rfl (Int.toNat_of_nonneg h0).symm (List.getElem?_eq_getElem h1) (fun _ q => by cases q)
theorem rngB_of {i j : Int} (h1 : -16000000 ≤ i ∧ i ≤ 16000000) (h2 : -16000000 ≤ j ∧ j ≤ 16000000) (h3 : j - i ≤ 16000000) : rngB i j = true := by
  unfold rngB
  rw [decide_eq_true (log2_of (k := 60) (by omega) (by decide)), decide_eq_true (log2_of (k := 60) (by omega) (by decide)), decide_eq_true (log2_of (k := 24) (by omega) (by decide))]
  rfl
theorem rng2_ok {i j : Int} (h1 : -16000000 ≤ i ∧ i ≤ 16000000) (h2 : -16000000 ≤ j ∧ j ≤ 16000000) (h3 : j - i ≤ 16000000) : rngOf [.int i, .int j] = some (i, j) := by
  show (if rngB i j = true then some (i, j) else none) = _
  exact if_pos (rngB_of h1 h2 h3)
theorem rng1_ok {j : Int} (h2 : -16000000 ≤ j ∧ j ≤ 16000000) : rngOf [.int j] = some (0, j) := by
  show (if rngB 0 j = true then some ((0 : Int), j) else none) = _
  exact if_pos (rngB_of (by omega) h2 (by omega))
theorem evI_rng {es : Mp.E} {ds : List D} {lo hi : Int} {h1 : AH} (e : evs M es ρ h = .ok ds h1) (hr : rngOf ds = some (lo, hi)) : evI M (.rng es) ρ h = .ok (rngD lo hi, fun _ => true) h1 := by
  show (evs M es ρ h).bind (fun ds h1 => match rngOf ds with
    | some (lo, hi) => R.ok (rngD lo hi, fun (_ : AH) => true) h1
    | none => .bad) = _
  rw [e]
  show (match rngOf ds with
    | some (lo, hi) => R.ok (rngD lo hi, fun (_ : AH) => true) h1
    | none => .bad) = _
  rw [hr]
theorem big16 {n : Nat} (h : n ≤ 16000000) : n ≤ sizeLine := Nat.le_trans h (by decide)
theorem eqV_int {i j : Int} : eqV (.int i) (.int j) = decide (i = j) := by
  rfl
theorem truD_bl {b : Bool} : truD h (.bl b) = some b := rfl
/-- each item, whatever it is -/
theorem lcLoop_id {f : D → AH → R (Option D)} {g : D → Option D} (xs : List D) (q : ∀ x ∈ xs, f x h = .ok (g x) h) : lcLoop f (fun _ => true) xs h = .ok (xs.filterMap g) h := by
  have z := lcLoop_map (e := fun x : D => x) (g := g) (h := h) xs q
  rw [List.map_id'] at z
  exact z
theorem fmap_no {α : Type} (p : α → Bool) (xs : List α) (g : α → Option D) (e : ∀ x ∈ xs, g x = none ↔ p x = true) : (xs.filterMap g).isEmpty = xs.all p := by
  induction xs with
  | nil => rfl
  | cons x xs ih =>
    have i := ih fun y hy => e y (List.mem_cons_of_mem _ hy)
    have ex := e x (List.mem_cons_self ..)
    cases q : g x with
    | none => rw [List.filterMap_cons, q, List.all_cons, ex.mp q]; exact i
    | some y =>
      have : p x = false := by
        cases z : p x with
        | false => rfl
        | true => rw [ex.mpr z] at q; cases q
      rw [List.filterMap_cons, q, List.all_cons, this]
      rfl
end
end Mp

set_option Elab.async false
set_option linter.all false
set_option autoImplicit false
set_option maxRecDepth 100000
set_option maxHeartbeats 4000000
namespace Mp
open PySem PySem.Spec L2
mutual
/-- okD, the ints less than b -/
def okB (b : Nat) : D → Bool
  | .non => true
  | .bl _ => true
  | .int i => decide (i.natAbs < b)
  | .str x => x.cps.toList.all fun c => decide (c < 128)
  | .tup xs => okBs b xs
  | .lst xs => okBs b xs
  | .dic [] [] => true
  | .dic [.inr x] [d] => (x.cps.toList.all fun c => decide (c < 128)) && okB b d
  | _ => false
def okBs (b : Nat) : List D → Bool
  | [] => true
  | x :: xs => okB b x && okBs b xs
end
mutual
theorem okB_mono {b c : Nat} (hb : b ≤ c) : ∀ d : D, okB b d = true → okB c d = true
  | .non, _ => rfl
  | .bl _, _ => rfl
  | .int i, h => decide_eq_true (Nat.lt_of_lt_of_le (of_decide_eq_true (show decide (i.natAbs < b) = true from h)) hb)
  | .str _, h => h
  | .tup xs, h => okBs_mono hb xs h
  | .lst xs, h => okBs_mono hb xs h
  | .dic [] [], _ => rfl
  | .dic [.inr x] [d], h => by
    have h1 := Bool.and_eq_true_iff.mp h
    exact Bool.and_eq_true_iff.mpr ⟨h1.1, okB_mono hb d h1.2⟩
  | .dic [.inr x] [], h => by simp [okB] at h
  | .dic [.inr x] (_ :: _ :: _), h => by simp [okB] at h
  | .dic [.inl x] _, h => by simp [okB] at h
  | .dic (_ :: _ :: _) _, h => by simp [okB] at h
  | .dic [] (_ :: _), h => by simp [okB] at h
  | .scr _, h => by simp [okB] at h
  | .ref _, h => by simp [okB] at h
  | .ty _, h => by simp [okB] at h
  | .glo _, h => by simp [okB] at h
  | .exc _ _ _, h => by simp [okB] at h
theorem okBs_mono {b c : Nat} (hb : b ≤ c) : ∀ xs : List D, okBs b xs = true → okBs c xs = true
  | [], _ => rfl
  | x :: xs, h => by
    have h1 := Bool.and_eq_true_iff.mp h
    exact Bool.and_eq_true_iff.mpr ⟨okB_mono hb x h1.1, okBs_mono hb xs h1.2⟩
end
mutual
theorem okB_okD : ∀ d : D, okB (10 ^ 80) d = true → okD d = true
  | .non, _ => rfl
  | .bl _, _ => rfl
  | .int i, h => h
  | .str _, h => h
  | .tup xs, h => okBs_okDs xs h
  | .lst xs, h => okBs_okDs xs h
  | .dic [] [], _ => rfl
  | .dic [.inr x] [d], h => by
    have h1 := Bool.and_eq_true_iff.mp h
    exact Bool.and_eq_true_iff.mpr ⟨h1.1, okB_okD d h1.2⟩
  | .dic [.inr x] [], h => by simp [okB] at h
  | .dic [.inr x] (_ :: _ :: _), h => by simp [okB] at h
  | .dic [.inl x] _, h => by simp [okB] at h
  | .dic (_ :: _ :: _) _, h => by simp [okB] at h
  | .dic [] (_ :: _), h => by simp [okB] at h
  | .scr _, h => by simp [okB] at h
  | .ref _, h => by simp [okB] at h
  | .ty _, h => by simp [okB] at h
  | .glo _, h => by simp [okB] at h
  | .exc _ _ _, h => by simp [okB] at h
theorem okBs_okDs : ∀ xs : List D, okBs (10 ^ 80) xs = true → okDs xs = true
  | [], _ => rfl
  | x :: xs, h => by
    have h1 := Bool.and_eq_true_iff.mp h
    exact Bool.and_eq_true_iff.mpr ⟨okB_okD x h1.1, okBs_okDs xs h1.2⟩
end
theorem okBs_all {b : Nat} : ∀ {xs : List D}, okBs b xs = true ↔ ∀ x ∈ xs, okB b x = true
  | [] => by simp [okBs]
  | x :: xs => by
    show (okB b x && okBs b xs) = true ↔ _
    rw [Bool.and_eq_true_iff, okBs_all]
    simp
theorem sIx_at {n d : Nat} {i : Int} (h0 : 0 ≤ i) (h1 : i ≤ n) : HT.sIx n d (some i) = i.toNat := by
  simp only [HT.sIx]
  rw [if_neg (by omega)]
  omega
theorem cut_take {xs : List D} {i : Int} (h0 : 0 ≤ i) (h1 : i ≤ xs.length) : cutD xs none (some i) = xs.take i.toNat := by
  unfold cutD
  rw [sIx_at h0 h1]
  simp [HT.sIx]
theorem cut_drop {xs : List D} {i : Int} (h0 : 0 ≤ i) (h1 : i ≤ xs.length) : cutD xs (some i) none = xs.drop i.toNat := by
  unfold cutD
  rw [sIx_at h0 h1]
  simp [HT.sIx]
  exact List.take_of_length_le (by simp)
/-- a thing: ints less than b, depth at most m, weight at most w -/
structure Tm (b m w : Nat) (d : D) : Prop where
  ok : okB b d = true
  dp : dp d ≤ m
  wt : wt d ≤ w
/-- parts: all together -/
structure Tms (b m w : Nat) (xs : List D) : Prop where
  ok : ∀ x ∈ xs, okB b x = true
  dp : ∀ x ∈ xs, Mp.dp x ≤ m
  wt : wts xs ≤ w
section
variable {b b' m m' w w' v : Nat} {d : D} {xs ys : List D}
theorem Tm.mono (t : Tm b m w d) (h1 : b ≤ b') (h2 : m ≤ m') (h3 : w ≤ w') : Tm b' m' w' d := ⟨okB_mono h1 d t.ok, Nat.le_trans t.dp h2, Nat.le_trans t.wt h3⟩
theorem Tms.mono (t : Tms b m w xs) (h1 : b ≤ b') (h2 : m ≤ m') (h3 : w ≤ w') : Tms b' m' w' xs := ⟨fun x hx => okB_mono h1 x (t.ok x hx), fun x hx => Nat.le_trans (t.dp x hx) h2, Nat.le_trans t.wt h3⟩
theorem Tm.tg (t : Tm b m w d) (h1 : b ≤ 10 ^ 80) (h2 : m ≤ 50) : Tg1 w d := ⟨okB_okD d (okB_mono h1 d t.ok), Nat.le_trans t.dp h2, t.wt⟩
theorem Tm.parts (t : Tm b (m + 1) w (.tup xs)) : Tms b m (w - 10) xs := by
  have h1 := t.dp
  have h2 := t.wt
  have h3 := okBs_all.mp (show okBs b xs = true from t.ok)
  simp only [Mp.dp, Mp.wt] at h1 h2
  exact ⟨h3, dps_mem.mp (by omega), by omega⟩
theorem Tm.partsL (t : Tm b (m + 1) w (.lst xs)) : Tms b m (w - 10) xs := by
  have h1 := t.dp
  have h2 := t.wt
  have h3 := okBs_all.mp (show okBs b xs = true from t.ok)
  simp only [Mp.dp, Mp.wt] at h1 h2
  exact ⟨h3, dps_mem.mp (by omega), by omega⟩
theorem Tm.w10 (t : Tm b m w (.tup xs)) : 10 ≤ w := by
  have h2 := t.wt
  simp only [Mp.wt] at h2
  omega
theorem Tm.m1 (t : Tm b m w (.tup xs)) : 1 ≤ m := by
  have h2 := t.dp
  simp only [Mp.dp] at h2
  omega
theorem Tms.tup (t : Tms b m w xs) : Tm b (m + 1) (w + 10) (.tup xs) := by
  refine ⟨okBs_all.mpr t.ok, ?_, ?_⟩
  · have := dps_mem.mpr t.dp
    simp only [Mp.dp]
    omega
  · have := t.wt
    simp only [Mp.wt]
    omega
theorem Tms.lst (t : Tms b m w xs) : Tm b (m + 1) (w + 10) (.lst xs) := by
  refine ⟨okBs_all.mpr t.ok, ?_, ?_⟩
  · have := dps_mem.mpr t.dp
    simp only [Mp.dp]
    omega
  · have := t.wt
    simp only [Mp.wt]
    omega
theorem Tms.append (t : Tms b m w xs) (u : Tms b m v ys) : Tms b m (w + v) (xs ++ ys) :=
  ⟨fun x hx => (List.mem_append.mp hx).elim (t.ok x) (u.ok x), fun x hx => (List.mem_append.mp hx).elim (t.dp x) (u.dp x), by rw [wts_append]; have := t.wt; have := u.wt; omega⟩
theorem Tms.one (t : Tm b m w d) : Tms b m (w + 2) [d] :=
  ⟨fun x hx => by rw [List.mem_singleton.mp hx]; exact t.ok, fun x hx => by rw [List.mem_singleton.mp hx]; exact t.dp, by
    show Mp.wt d + 2 + 0 ≤ w + 2
    have := t.wt
    omega⟩
theorem Tms.nil : Tms b m 0 [] := ⟨fun x hx => (nomatch hx), fun x hx => (nomatch hx), Nat.le_refl _⟩
theorem Tms.cons (t : Tm b m w d) (u : Tms b m v xs) : Tms b m (w + 2 + v) (d :: xs) := (Tms.one t).append u
theorem Tms.take (t : Tms b m w xs) (n : Nat) : Tms b m w (xs.take n) := ⟨fun x hx => t.ok x (List.mem_of_mem_take hx), fun x hx => t.dp x (List.mem_of_mem_take hx), Nat.le_trans (wts_take n xs) t.wt⟩
theorem Tms.drop (t : Tms b m w xs) (n : Nat) : Tms b m w (xs.drop n) := ⟨fun x hx => t.ok x (List.mem_of_mem_drop hx), fun x hx => t.dp x (List.mem_of_mem_drop hx), Nat.le_trans (wts_drop n xs) t.wt⟩
theorem Tms.rev (t : Tms b m w xs) : Tms b m w xs.reverse := ⟨fun x hx => t.ok x (List.mem_reverse.mp hx), fun x hx => t.dp x (List.mem_reverse.mp hx), by rw [wts_rev]; exact t.wt⟩
theorem Tms.cut (t : Tms b m w xs) (lo hi : Option Int) : Tms b m w (cutD xs lo hi) := (t.drop _).take _
theorem Tms.mem (t : Tms b m w xs) {x : D} (hx : x ∈ xs) : Tm b m w x := ⟨t.ok x hx, t.dp x hx, by have := wt_mem x hx; have := t.wt; omega⟩
theorem Tms.len (t : Tms b m w xs) : 2 * xs.length ≤ w := Nat.le_trans wts_len t.wt
theorem Tm.non (h : 90 ≤ w) : Tm b m w .non := ⟨rfl, Nat.zero_le _, h⟩
theorem Tm.bl {z : Bool} (h : 90 ≤ w) : Tm b m w (.bl z) := ⟨rfl, Nat.zero_le _, h⟩
theorem Tm.int {i : Int} (hi : i.natAbs < b) (h : 90 ≤ w) : Tm b m w (.int i) := ⟨decide_eq_true hi, Nat.zero_le _, h⟩
/-- by looking -/
def tmB (b m w : Nat) (d : D) : Bool := okB b d && (decide (dp d ≤ m) && decide (wt d ≤ w))
theorem Tm.of (h : tmB b m w d = true) : Tm b m w d := by
  have h1 := Bool.and_eq_true_iff.mp h
  have h2 := Bool.and_eq_true_iff.mp h1.2
  exact ⟨h1.1, of_decide_eq_true h2.1, of_decide_eq_true h2.2⟩
theorem Tm.all {l : List D} (h : l.all (tmB b m w) = true) : ∀ d ∈ l, Tm b m w d := fun d hd => .of (List.all_eq_true.mp h d hd)
theorem Tm.str {x : Str} (h : (x.cps.toList.all fun c => decide (c < 128)) = true) (hw : 10 * x.length + 10 ≤ w) : Tm b m w (.str x) := ⟨h, Nat.zero_le _, hw⟩
theorem Tm.asc {x : Str} (t : Tm b m w (.str x)) : (x.cps.toList.all fun c => decide (c < 128)) = true := t.ok
theorem Tm.slen {x : Str} (t : Tm b m w (.str x)) : 10 * x.length + 10 ≤ w := t.wt
theorem asc_app {x y : Str} (h1 : (x.cps.toList.all fun c => decide (c < 128)) = true) (h2 : (y.cps.toList.all fun c => decide (c < 128)) = true) : ((x ++ y).cps.toList.all fun c => decide (c < 128)) = true := by
  rw [Str.cps_append, Array.toList_append, List.all_append, h1, h2]
  rfl
theorem Tm.app {x y : Str} (t : Tm b m w (.str x)) (u : Tm b m v (.str y)) : Tm b m (w + v) (.str (x ++ y)) := .str (asc_app t.asc u.asc) (by
  rw [len_app]
  have := t.slen
  have := u.slen
  omega)
theorem Tm.cutS {x : Str} (t : Tm b m w (.str x)) (lo hi : Option Int) : Tm b m w (.str (L2.cutS x lo hi)) := by
  have e : (L2.cutS x lo hi).cps.toList = (x.cps.toList.drop (HT.sIx x.length 0 lo)).take (HT.sIx x.length x.length hi - HT.sIx x.length 0 lo) := by
    unfold L2.cutS
    simp
  refine .str ?_ ?_
  · rw [e]
    exact List.all_eq_true.mpr fun c hc => List.all_eq_true.mp t.asc c (List.mem_of_mem_drop (List.mem_of_mem_take hc))
  · have l : (L2.cutS x lo hi).length ≤ x.length := by
      show (L2.cutS x lo hi).cps.size ≤ x.cps.size
      rw [← Array.length_toList, e, ← Array.length_toList]
      simp
      omega
    have := t.slen
    omega
theorem Tm.upper {x : Str} (t : Tm b m w (.str x)) : Tm b m w (.str (Txt.upper x)) := by
  have ha := t.asc
  rw [PyProof.Rows.upper_ascii fun c hc => of_decide_eq_true (List.all_eq_true.mp ha c hc)]
  refine .str ?_ ?_
  · rw [Array.toList_map, List.all_map]
    refine List.all_eq_true.mpr fun c hc => ?_
    have := of_decide_eq_true (List.all_eq_true.mp ha c hc)
    show decide (PyProof.Rows.up1 c < 128) = true
    unfold PyProof.Rows.up1
    split
    · exact decide_eq_true (by omega)
    · exact decide_eq_true this
  · have l : (⟨x.cps.map PyProof.Rows.up1⟩ : Str).length = x.length := by
      show (x.cps.map PyProof.Rows.up1).size = x.cps.size
      simp
    rw [l]
    exact t.slen
theorem Tm.kd (t : Tm b m w d) : kd d = true := by
  have := t.ok
  cases d <;> first | rfl | (simp [okB] at this)
end
end Mp

set_option Elab.async false
set_option linter.all false
set_option autoImplicit false
set_option maxRecDepth 100000
set_option maxHeartbeats 4000000
namespace Mp
open PySem PySem.Spec L2
/-! ### the pen's making, lists that grow -/
def penB : Mp.S := (.seq (.ret (.lst true (.cons (.bi (.list false) (.cons (.sl false (.v 0) .no (.opt (.k (.int 63)))) .nil)) (.cons (.k (.int 0)) (.cons (.k (.int 0)) .nil))))) .nil)
section
variable {M : Mdl} {c : List Int} {n : Int} {h h1 : AH} {xs ys : List D} {d : D} {ρ : Ev}
theorem penB_ok (ns : List Int) : ∃ c : List Int, ex M penB [some (.scr (ns.map .int))] [] = .rt (.ref 0) [penO c 0 0] := by
  refine ⟨(ns.drop (HT.sIx ns.length 0 none)).take (HT.sIx ns.length ns.length (some 63) - HT.sIx ns.length 0 none), ?_⟩
  have e : cutD (ns.map .int) none (some 63) = ((ns.drop (HT.sIx ns.length 0 none)).take (HT.sIx ns.length ns.length (some 63) - HT.sIx ns.length 0 none)).map .int := by
    unfold cutD
    rw [List.length_map, List.map_take, List.map_drop]
  have s1 : slD false (.scr (ns.map .int)) none (some 63) [] = .ok (.lst (cutD (ns.map .int) none (some 63))) [] := rfl
  have l1 : ∀ xs : List D, Bi.run (.list false) [.lst xs] [] = .ok (.lst xs) [] := fun _ => rfl
  have n1 : ∀ xs : List D, newL true [.lst xs, .int 0, .int 0] [] = .ok (.ref 0) [.lst [.lst xs, .int 0, .int 0]] := fun _ => rfl
  simp only [penB, ex, ev, evs, evAnd, evOr, R.bind, R.toS, RS.andThen, RS.toR, List.getElem?_cons_zero, List.getElem?_cons_succ, List.set_cons_zero, List.set_cons_succ, truR_bl, not_bl, truD_bl, newF, okb0, okb1, okb2, okb3, okb4, okb5, okb6, okb7, okb8, okb9, okb10, okb11, okb12, okb13, okb14, okb15, okb16, okb17, prt, s1, l1, n1, e, penO]
theorem pen0 {c : List Int} : Pen c 0 [] [penO c 0 0] := ⟨0, 0, rfl, by omega, by omega, by omega⟩
theorem for_ok {t : Tg} {it : Mp.E} {b : Mp.S} {ck : AH → Bool} (e : evI M it ρ h = .ok (xs, ck) h1) : ex M (.for_ t it b) ρ h = forLoop (fun x ρ h => match t.bind x ρ with
    | some ρ' => ex M b ρ' h
    | none => .bad) ck xs ρ h1 := by
  show (evI M it ρ h).toS _ = _
  rw [e]
  rfl
theorem app_rcv (p : Pen c n [.lst xs] h) : Mt.rcv .append h (.ref 1) = true := by
  obtain ⟨a, g, rfl, _⟩ := p
  rfl
theorem ext_rcv (p : Pen c n [.lst xs] h) : Mt.rcv .extend h (.ref 1) = true := by
  obtain ⟨a, g, rfl, _⟩ := p
  rfl
theorem app_ok (p : Pen c n [.lst xs] h) (hl : xs.length < 1000000) : ∃ h', Mt.run .append (.ref 1) [d] h = .ok .non h' ∧ Pen c n [.lst (xs ++ [d])] h' := by
  obtain ⟨a, g, rfl, h1, h2, h3⟩ := p
  refine ⟨penO c a g :: [.lst (xs ++ [d])], ?_, a, g, rfl, h1, h2, h3⟩
  show okb (decide (xs.length < sizeLine)) _ = _
  rw [decide_eq_true (Nat.lt_of_lt_of_le hl (by decide))]
  rfl
theorem ext_ok (p : Pen c n [.lst xs] h) (hl : xs.length + ys.length ≤ 1000000) : ∃ h', Mt.run .extend (.ref 1) [.lst ys] h = .ok .non h' ∧ Pen c n [.lst (xs ++ ys)] h' := by
  obtain ⟨a, g, rfl, h1, h2, h3⟩ := p
  refine ⟨penO c a g :: [.lst (xs ++ ys)], ?_, a, g, rfl, h1, h2, h3⟩
  show okb (decide (xs.length + ys.length ≤ sizeLine)) (.ok .non _) = _
  rw [decide_eq_true (Nat.le_trans hl (by decide))]
  rfl
theorem ls1 (p : Pen c n [.lst xs] h) : lsD h (.ref 1) = some xs := by
  obtain ⟨a, g, rfl, _⟩ := p
  rfl
theorem wts_le {w : Nat} : ∀ {xs : List D}, (∀ x ∈ xs, wt x ≤ w) → wts xs ≤ (w + 2) * xs.length
  | [], _ => Nat.zero_le _
  | x :: xs, q => by
    have h1 := q x (List.mem_cons_self ..)
    have h2 := wts_le fun y hy => q y (List.mem_cons_of_mem _ hy)
    show wt x + 2 + wts xs ≤ (w + 2) * (xs.length + 1)
    rw [Nat.mul_succ]
    omega
theorem Tms.of {b m w : Nat} (q : ∀ x ∈ xs, Tm b m w x) : Tms b m ((w + 2) * xs.length) xs := ⟨fun x hx => (q x hx).ok, fun x hx => (q x hx).dp, wts_le fun x hx => (q x hx).wt⟩
end
end Mp

set_option Elab.async false
set_option linter.all false
set_option autoImplicit false
set_option maxRecDepth 100000
set_option maxHeartbeats 4000000
namespace Mp
open PySem PySem.Spec L2
/-! ### small steps about drawn things -/
section
variable {L : Lw} {K : PySem.W.Frag} {k : Nat} {c : List Int} {n b : Int} {t h : AH} {M : Mdl}
theorem draw1 (D0 : Draws L) (b : Int) (p : Pen c n t h) (hn : n < 900000) (h1 : 0 < b) (h2 : b < 2 ^ 60) : ∃ d h', (L.m K (k + 1)).Φ "_law_draw" [.ref 0, .int b] h = .ok (.int d) h' ∧ 0 ≤ d ∧ d < b ∧ Pen c (n + 1) t h' := D0.ok K k c n t h b p (by omega) h1 h2
theorem pick1 (D0 : Draws L) (P0 : HasPick L) {xs : List D} (p : Pen c n t h) (hn : n < 900000) (hx : 0 < xs.length) (hx2 : xs.length ≤ 1000000) : ∃ x h', (L.m K (k + 2)).Φ "_law_pick" [.ref 0, .lst xs] h = .ok x h' ∧ x ∈ xs ∧ Pen c (n + 1) t h' := by
  obtain ⟨d, e1, e2, e3, e4⟩ := P0.ex_
  obtain ⟨z, h', q1, q2, q3, q4⟩ := draw1 (K := K) (k := k) D0 (xs.length : Int) p hn (by omega) (by omega)
  have zl : z.toNat < xs.length := by omega
  refine ⟨xs[z.toNat]'zl, h', ?_, List.getElem_mem .., q4⟩
  show L.phi K (k + 1 + 1) "_law_pick" [.ref 0, .lst xs] h = _
  rw [phi_at e1, fnEv_at e2 (by rw [e3]; rfl), e3, e4]
  have i := ixP (d := .lst xs) (h := h') (xs := xs) (e := .int z) (i := z) (j := z.toNat) rfl rfl (Int.toNat_of_nonneg q2).symm (List.getElem?_eq_getElem zl) (fun _ q => by cases q)
  show (ex (L.m K (k + 1)) pickA [some (.ref 0), some (.lst xs)] h).toR = _
  simp only [pickA, ex, ev, evs, R.bind, R.toS, RS.andThen, List.getElem?_cons_zero, List.getElem?_cons_succ, bi_lenl, q1, i, RS.toR]
theorem ix_mem {xs : List D} {i : Int} (h0 : 0 ≤ i) (h1 : i < xs.length) : ∃ x ∈ xs, ixD (.lst xs) (.int i) h = .ok x h := by
  have l : i.toNat < xs.length := by omega
  exact ⟨xs[i.toNat]'l, List.getElem_mem .., ixL h0 l⟩
theorem tms_ints {b m : Nat} (ns : List Int) (h : ∀ i ∈ ns, i.natAbs < b) : Tms b m (92 * ns.length) (ns.map .int) := by
  induction ns with
  | nil => exact Tms.nil
  | cons a r ih =>
    have := Tms.cons (Tm.int (m := m) (h a (List.mem_cons_self ..)) (Nat.le_refl 90)) (ih fun i hi => h i (List.mem_cons_of_mem _ hi))
    exact this.mono (Nat.le_refl _) (Nat.le_refl _) (by simp; omega)
theorem bi_tupL {xs : List D} : Bi.run .tuple [.lst xs] h = .ok (.tup xs) h := rfl
theorem addT {xs ys : List D} (hl : xs.length + ys.length ≤ 16000000) : bop false .Add (.tup xs) (.tup ys) h = .ok (.tup (xs ++ ys)) h := by
  show okb (decide (xs.length + ys.length ≤ sizeLine)) _ = _
  rw [decide_eq_true (big16 hl)]
  rfl
theorem addL' {xs ys : List D} (hl : xs.length + ys.length ≤ 16000000) : bop false .Add (.lst xs) (.lst ys) h = .ok (.lst (xs ++ ys)) h := by
  show okb (decide (xs.length + ys.length ≤ sizeLine)) (.ok (.lst (xs ++ ys)) h) = _
  rw [decide_eq_true (big16 hl)]
  rfl
theorem addS {x y : Str} (hl : x.length + y.length ≤ 16000000) : bop false .Add (.str x) (.str y) h = .ok (.str (x ++ y)) h := by
  show okb (decide (x.length + y.length ≤ sizeLine)) _ = _
  rw [decide_eq_true (big16 hl)]
  rfl
theorem slS_ok {x : Str} {lo hi : Option Int} (hl : x.length ≤ 16000000) : slD false (.str x) lo hi h = .ok (.str (L2.cutS x lo hi)) h := by
  show okb (decide (x.length ≤ sizeLine)) _ = _
  rw [decide_eq_true (big16 hl)]
  rfl
theorem slL_ok {xs : List D} {lo hi : Option Int} : slD false (.lst xs) lo hi h = .ok (.lst (cutD xs lo hi)) h := rfl
theorem up_ok {x : Str} (hl : x.length ≤ 5000000) : upD (.str x) h = .ok (.str (Txt.upper x)) h := by
  show okb (decide (x.length ≤ 5592405)) _ = _
  rw [decide_eq_true (by omega)]
  rfl
theorem int_asc (i : Int) : ((toString i : Str).cps.toList.all fun c => decide (c < 128)) = true := by
  refine List.all_eq_true.mpr fun z hz => decide_eq_true ?_
  by_cases q : z < 128
  · exact q
  · exact absurd hz (PyProof.Rows.int_text_free' z ⟨by omega, .inr (by omega)⟩ i)
theorem int_tm {b m : Nat} {i : Int} (hi : i.natAbs < 10 ^ 80) : Tm b m 820 (.str (toString i)) := by
  refine .str (int_asc i) ?_
  have e : (Str.ofString (toString i)).length ≤ 81 := by
    rw [ofString_length]
    exact int_text_length_le10 (k := 80) (by decide) hi
  show 10 * (Str.ofString (toString i)).length + 10 ≤ 820
  omega
theorem str_ok {i : Int} (hi : i.natAbs < 10 ^ 80) : Bi.run .str [.int i] h = .ok (.str (toString i)) h := by
  have : i.natAbs.log2 < 1920 := Nat.lt_of_lt_of_le (log2_of (k := 300) (Nat.lt_of_lt_of_le hi (by decide +kernel)) (by decide)) (by decide)
  show okb (decide (i.natAbs.log2 < 1920)) _ = _
  rw [decide_eq_true this]
  rfl
theorem join_k (cs : List Nat) (hl : cs.length ≤ 1000) (h : AH) : Mt.run .join (.str "") [.lst (cs.map fun c => D.str ⟨#[c]⟩)] h = .ok (.str ⟨cs.toArray⟩) h := by
  have q : ∀ cs : List Nat, allM strD (cs.map fun c => D.str ⟨#[c]⟩) = some (cs.map fun c => (⟨#[c]⟩ : Str)) := by
    intro cs
    induction cs with
    | nil => rfl
    | cons c cs ih => simp [allM, strD, ih]
  have s : ∀ cs : List Nat, ((cs.map fun c => (⟨#[c]⟩ : Str)).map Str.length).sum = cs.length := by
    intro cs
    induction cs with
    | nil => rfl
    | cons c cs ih =>
      have e : (⟨#[c]⟩ : Str).length = 1 := rfl
      simp only [List.map_cons, List.sum_cons, ih, e, List.length_cons]
      omega
  have z : ((("" : String) : Str)).length = 0 := by decide +kernel
  show (match allM strD (cs.map fun c => D.str ⟨#[c]⟩) with
      | some ys => okb (decide ((ys.map Str.length).sum + ys.length * ("" : Str).length ≤ 16777216)) (.ok (.str (Txt.join "" ys)) h)
      | none => .bad) = _
  rw [q]
  show okb (decide (((cs.map fun c => (⟨#[c]⟩ : Str)).map Str.length).sum + (cs.map fun c => (⟨#[c]⟩ : Str)).length * ("" : Str).length ≤ 16777216)) (.ok (.str (Txt.join "" (cs.map fun c => (⟨#[c]⟩ : Str)))) h) = _
  simp only [s, z, Nat.mul_zero, Nat.add_zero, join_ones2]
  rw [decide_eq_true (by omega)]
  rfl
theorem ixStr {x : Str} {i : Int} {c : Nat} (h0 : 0 ≤ i) (e : x.cps.toList[i.toNat]? = some c) (hl : x.length ≤ sizeLine) : ixD (.str x) (.int i) h = .ok (.str ⟨#[c]⟩) h := by
  have hl2 : i.toNat < x.cps.toList.length := (List.getElem?_eq_some_iff.mp e).1
  have ha : atI x.cps.toList i = some c := by
    unfold atI ixN
    rw [if_pos (by omega), if_pos (by omega)]
    simpa using e
  show (match atI x.cps.toList i with
    | some c => okb (decide (x.length ≤ sizeLine)) (.ok (.str ⟨#[c]⟩) h)
    | none => .bad) = _
  rw [ha]
  show okb (decide (x.length ≤ sizeLine)) (.ok (.str ⟨#[c]⟩) h) = _
  rw [decide_eq_true hl]
  rfl
/-- codes out of a list of texts of one sign -/
theorem conv_codes {P : Nat → Prop} : ∀ ys : List D, (∀ y ∈ ys, ∃ c, P c ∧ y = .str ⟨#[c]⟩) → ∃ cs : List Nat, ys = cs.map (fun c => D.str ⟨#[c]⟩) ∧ ∀ c ∈ cs, P c
  | [], _ => ⟨[], rfl, fun _ q => nomatch q⟩
  | y :: ys, hs => by
    obtain ⟨c, pc, rfl⟩ := hs y (List.mem_cons_self ..)
    obtain ⟨cs, rfl, q⟩ := conv_codes ys fun z hz => hs z (List.mem_cons_of_mem _ hz)
    exact ⟨c :: cs, rfl, fun z hz => (List.mem_cons.mp hz).elim (fun e => by rw [e]; exact pc) (q z)⟩
/-- a text of drawn signs -/
def sgE (b : Int) : Mp.E := (.lc false (.one 3) (.rng (.cons (.v 1) .nil)) .no (.ix (.v 2) (.call "_law_draw" (.cons (.v 0) (.cons (.k (.int b)) .nil)))))
theorem signs_d (D0 : Draws L) {s : Str} {m : Int} {w3 : Option D} (hs : s.length ≤ 1000) (hs0 : 0 < s.length) (hm : 0 ≤ m) (hm2 : m ≤ 1000) (p : Pen c n t h) (hn : n < 800000) :
    ∃ (cs : List Nat) (h' : AH), ev (L.m K (k + 1)) (sgE (s.length : Nat)) [some (.ref 0), some (.int m), some (.str s), w3] h = .ok (.lst (cs.map fun c => D.str ⟨#[c]⟩)) h' ∧ cs.length = m.toNat ∧ (∀ z ∈ cs, z ∈ s.cps.toList) ∧ Pen c (n + m) t h' := by
  have hr := rng1_ok (j := m) (by omega)
  have lr : (rngD 0 m).length = m.toNat := by rw [rng_len]; congr 1; omega
  obtain ⟨ys, h2, e2, s2, l2, p2⟩ := lcLoop_inv (B := m.toNat) (I := fun i h => Pen c (n + (i : Int)) t h) (S := fun y => ∃ z, z ∈ s.cps.toList ∧ y = .str ⟨#[z]⟩) (f := fun x h => match (Tg.one 3).bind x (wipeE [some (.ref 0), some (.int m), some (.str s), w3] (Tg.one 3).own) with
      | some ρ' => lcTurn (fun ρ h => tst .no (ev (L.m K (k + 1)) .no ρ h) h) (fun ρ h => ev (L.m K (k + 1)) (.ix (.v 2) (.call "_law_draw" (.cons (.v 0) (.cons (.k (.int (s.length : Nat))) .nil)))) ρ h) ρ' h
      | none => .bad) (fun i x h hi hp => by
    obtain ⟨z, h', e, z1, z2, p'⟩ := draw1 (K := K) (k := k) D0 (s.length : Nat) hp (by omega) (by omega) (by omega)
    have zl : z.toNat < s.cps.toList.length := by
      show z.toNat < s.cps.toList.length
      have : s.cps.toList.length = s.length := by simp [Str.length]
      omega
    have i := ixStr (x := s) (i := z) (c := s.cps.toList[z.toNat]'zl) (h := h') z1 (List.getElem?_eq_getElem zl) (big16 (by omega))
    refine ⟨.str ⟨#[s.cps.toList[z.toNat]'zl]⟩, h', ?_, ⟨_, List.getElem_mem zl, rfl⟩, p'.mono (by omega)⟩
    simp only [Tg.bind, Tg.own, wipeE, lcTurn, noX, tst, ex, ev, evs, evAnd, evOr, R.bind, R.toS, RS.andThen, RS.toR, List.getElem?_cons_zero, List.getElem?_cons_succ, List.set_cons_zero, List.set_cons_succ, truR_bl, not_bl, truD_bl, newF, okb0, okb1, okb2, okb3, okb4, okb5, okb6, okb7, okb8, okb9, okb10, okb11, okb12, okb13, okb14, okb15, okb16, okb17, e, i]) (rngD 0 m) 0 h (by rw [lr]; omega) (p.mono (by omega))
  obtain ⟨cs, rfl, q⟩ := conv_codes ys s2
  rw [lr] at l2 p2
  refine ⟨cs, h2, ?_, by rw [List.length_map] at l2; exact l2, q, p2.mono (by omega)⟩
  exact lc_ok (h1 := h) (xs := rngD 0 m) (ck := fun _ => true) (evI_rng (by simp only [ex, ev, evs, evAnd, evOr, R.bind, R.toS, RS.andThen, RS.toR, List.getElem?_cons_zero, List.getElem?_cons_succ, List.set_cons_zero, List.set_cons_succ, truR_bl, not_bl, truD_bl, newF, okb0, okb1, okb2, okb3, okb4, okb5, okb6, okb7, okb8, okb9, okb10, okb11, okb12, okb13, okb14, okb15, okb16, okb17]) hr) (big16 (by rw [lr]; omega)) e2
/-- a list that stands last on the heap grows -/
theorem app_last {xs : List D} {d : D} {m : Nat} (p : Pen c n (t ++ [AO.lst xs]) h) (hm : m = t.length + 1) (hl : xs.length < 1000000) : Mt.rcv .append h (.ref m) = true ∧ ∃ h', Mt.run .append (.ref m) [d] h = .ok .non h' ∧ Pen c n (t ++ [AO.lst (xs ++ [d])]) h' := by
  obtain ⟨a, g, rfl, h1, h2, h3⟩ := p
  subst hm
  have ea : asL (penO c a g :: (t ++ [AO.lst xs]))[t.length + 1]? = some xs := by simp [asL]
  refine ⟨?_, penO c a g :: (t ++ [AO.lst (xs ++ [d])]), ?_, a, g, rfl, h1, h2, h3⟩
  · show (asL (penO c a g :: (t ++ [AO.lst xs]))[t.length + 1]?).isSome = true
    rw [ea]
    rfl
  · show (match asL (penO c a g :: (t ++ [AO.lst xs]))[t.length + 1]? with
      | some ys => okb (decide (ys.length < sizeLine)) (.ok .non ((penO c a g :: (t ++ [AO.lst xs])).set (t.length + 1) (AO.lst (ys ++ [d]))))
      | none => .bad) = _
    rw [ea]
    show okb (decide (xs.length < sizeLine)) _ = _
    rw [decide_eq_true (Nat.lt_of_lt_of_le hl (by decide))]
    simp [okb]
theorem ls_last {xs : List D} {m : Nat} (p : Pen c n (t ++ [AO.lst xs]) h) (hm : m = t.length + 1) : lsD h (.ref m) = some xs := by
  obtain ⟨a, g, rfl, h1, h2, h3⟩ := p
  subst hm
  show asL (penO c a g :: (t ++ [AO.lst xs]))[t.length + 1]? = _
  simp [asL]
end
end Mp

set_option Elab.async false
set_option linter.all false
set_option autoImplicit false
set_option maxRecDepth 100000
set_option maxHeartbeats 4000000
namespace Tb
open PySem PySem.Spec L2 Mp
def top (i : Nat) : Stmt := PySem.Challenge.pw_whoheld_k01_errors.main.body.getD i (.Pass ⟨0, 0, 0, 0⟩)
def inCls (s : Stmt) (j : Nat) : Stmt := match s with
  | .ClassDef _ _ _ body _ _ _ _ _ _ _ => body.getD j (.Pass ⟨0, 0, 0, 0⟩)
  | _ => .Pass ⟨0, 0, 0, 0⟩
def fileN : Str := PySem.Challenge.pw_whoheld_k01_errors.main.file
/-- _law_pen: 0 _law_script -/
def s_Lpen_0 : Mp.S := (.ret (.lst true (.cons (.bi (.list false) (.cons (.sl false (.v 0) .no (.opt (.k (.int 63)))) .nil)) (.cons (.k (.int 0)) (.cons (.k (.int 0)) .nil)))))
def b_Lpen : Mp.S := (.seq s_Lpen_0 .nil)
def d_Lpen : DD := ⟨"_law_pen", ["_law_script"], 1, b_Lpen, top 40, []⟩
/-- _law_draw: 0 _law_pen_here, 1 _law_bound, 2 _law_at, 3 _law_cell, 4 _law_mixed, 5 _law_digit, 6 _law_great -/
def s_Ldraw_0 : Mp.S := (.ife (.cmp .Gt (.ix (.v 0) (.k (.int 2))) (.k (.int 0))) (.seq (.asg 5 (.bin false .Mod (.bi .int (.cons (.ix (.v 0) (.k (.int 2))) .nil)) (.v 1)))
  (.seq (.set (.v 0) (.k (.int 2)) (.bin false .FloorDiv (.bi .int (.cons (.ix (.v 0) (.k (.int 2))) .nil)) (.v 1)))
  (.seq (.ret (.v 5))
  .nil))) .nil)
def s_Ldraw_1 : Mp.S := (.asg 2 (.bi .int (.cons (.ix (.v 0) (.k (.int 1))) .nil)))
def s_Ldraw_2 : Mp.S := (.set (.v 0) (.k (.int 1)) (.bin false .Add (.v 2) (.k (.int 1))))
def s_Ldraw_3 : Mp.S := (.asg 3 (.bin false .Add (.bin false .Mult (.k (.int 91193)) (.v 2)) (.k (.int 377))))
def s_Ldraw_4 : Mp.S := (.ife (.cmp .NotEq (.ix (.v 0) (.k (.int 0))) (.lst false .nil)) (.seq (.asg 3 (.bi .int (.cons (.ix (.ix (.v 0) (.k (.int 0))) (.bin false .Mod (.bi .int (.cons (.v 2) .nil)) (.bi .len (.cons (.ix (.v 0) (.k (.int 0))) .nil)))) .nil)))
  .nil) .nil)
def s_Ldraw_5 : Mp.S := (.ife (.andL (.cons (.cmp .Lt (.v 2) (.bi .len (.cons (.ix (.v 0) (.k (.int 0))) .nil))) (.cons (.cmp .GtE (.bi .abs (.cons (.v 3) .nil)) (.bin false .Pow (.k (.int 10)) (.k (.int 18)))) .nil))) (.seq (.asg 6 (.bin false .Add (.bin false .Mult (.k (.int 2)) (.bin false .Sub (.bi .abs (.cons (.v 3) .nil)) (.bin false .Pow (.k (.int 10)) (.k (.int 18))))) (.bi .int (.cons (.cmp .Lt (.v 3) (.k (.int 0))) .nil))))
  (.seq (.set (.v 0) (.k (.int 2)) (.bin false .FloorDiv (.v 6) (.v 1)))
  (.seq (.ret (.bin false .Mod (.bi .int (.cons (.v 6) .nil)) (.v 1)))
  .nil))) .nil)
def s_Ldraw_6 : Mp.S := (.asg 4 (.bin false .Mod (.bi .int (.cons (.bin false .Pow (.bin false .Add (.bin false .Add (.bin false .Mod (.bi .int (.cons (.v 3) .nil)) (.k (.int 2147483579))) (.bin false .Mult (.k (.int 51407)) (.v 2))) (.k (.int 61))) (.k (.int 5))) .nil)) (.k (.int 2147483647))))
def s_Ldraw_7 : Mp.S := (.asg 4 (.bin false .Mod (.bi .int (.cons (.bin false .Pow (.bin false .Add (.bin false .Add (.bin false .Mult (.v 4) (.bin false .Add (.bin false .Mult (.k (.int 2)) (.v 2)) (.k (.int 19)))) (.bin false .Mult (.bin false .Mult (.k (.int 70223)) (.v 2)) (.v 2))) (.k (.int 7))) (.k (.int 3))) .nil)) (.k (.int 2147483629))))
def s_Ldraw_8 : Mp.S := (.ret (.bin false .Mod (.bi .int (.cons (.bin false .FloorDiv (.v 4) (.k (.int 32))) .nil)) (.v 1)))
def b_Ldraw : Mp.S := (.seq s_Ldraw_0 (.seq s_Ldraw_1 (.seq s_Ldraw_2 (.seq s_Ldraw_3 (.seq s_Ldraw_4 (.seq s_Ldraw_5 (.seq s_Ldraw_6 (.seq s_Ldraw_7 (.seq s_Ldraw_8 .nil)))))))))
def d_Ldraw : DD := ⟨"_law_draw", ["_law_pen_here", "_law_bound", "_law_at", "_law_cell", "_law_mixed", "_law_digit", "_law_great"], 2, b_Ldraw, top 41, []⟩
/-- _law_pick: 0 _law_pen_here, 1 _law_some -/
def s_Lpick_0 : Mp.S := (.ret (.ix (.v 1) (.call "_law_draw" (.cons (.v 0) (.cons (.bi .len (.cons (.v 1) .nil)) .nil)))))
def b_Lpick : Mp.S := (.seq s_Lpick_0 .nil)
def d_Lpick : DD := ⟨"_law_pick", ["_law_pen_here", "_law_some"], 2, b_Lpick, top 42, []⟩
/-- _law_odd: 0 _law_pen_here, 1 _law_some -/
def s_Lodd_0 : Mp.S := (.asg 1 (.lst false (.cons (.k .non) (.cons (.k (.bl true)) (.cons (.k (.bl false)) (.cons (.k (.int 0)) (.cons (.k (.int 1)) (.cons (.neg (.k (.int 1))) (.cons (.k (.int 7)) (.cons (.k (.int 8)) (.cons (.k (.int 999999)) (.cons (.k (.int 1000000)) (.cons (.bin false .Pow (.k (.int 10)) (.k (.int 59))) (.cons (.bin false .Sub (.k (.int 0)) (.bin false .Pow (.k (.int 10)) (.k (.int 59)))) (.cons (.k (.str "")) (.cons (.k (.str "a")) (.cons (.k (.str "abcdefgh")) .nil)))))))))))))))))
def s_Lodd_1 : Mp.S := (.asg 1 (.bin false .Add (.v 1) (.lst false (.cons (.k (.str "abcdefghi")) (.cons (.k (.str "A")) (.cons (.k (.str "a1")) (.cons (.k (.str "1")) (.cons (.k (.str "a b")) (.cons (.k (.str "b\n")) (.cons (.k (.str "-")) (.cons (.tup .nil) (.cons (.tup (.cons (.k (.int 0)) (.cons (.k (.int 0)) .nil))) (.cons (.tup (.cons (.k (.int 7)) (.cons (.k (.int 7)) .nil))) (.cons (.tup (.cons (.k (.int 0)) (.cons (.k (.int 8)) .nil))) (.cons (.tup (.cons (.neg (.k (.int 1))) (.cons (.k (.int 0)) .nil))) (.cons (.lst false (.cons (.k (.int 0)) (.cons (.k (.int 0)) .nil))) .nil))))))))))))))))
def s_Lodd_2 : Mp.S := (.asg 1 (.bin false .Add (.v 1) (.lst false (.cons (.tup (.cons (.k (.bl true)) (.cons (.k (.int 0)) .nil))) (.cons (.tup (.cons (.k (.int 0)) (.cons (.k (.int 0)) (.cons (.k (.int 0)) .nil)))) (.cons (.lst false .nil) (.cons .dic0 (.cons (.tup (.cons (.k (.str "0")) (.cons (.k (.int 0)) .nil))) (.cons (.tup (.cons (.k (.int 0)) .nil)) (.cons (.lst false (.cons (.k .non) .nil)) (.cons (.dic1 "a" (.int 1)) (.cons (.tup (.cons (.k (.str "fall")) .nil)) (.cons (.k (.str "fall")) (.cons (.lst false (.cons (.tup (.cons (.k (.str "fall")) .nil)) .nil)) .nil))))))))))))))
def s_Lodd_3 : Mp.S := (.ret (.call "_law_pick" (.cons (.v 0) (.cons (.bin false .Add (.v 1) (.lst false (.cons (.tup (.cons (.k (.str "sweep")) (.cons (.k .non) .nil))) .nil))) .nil))))
def b_Lodd : Mp.S := (.seq s_Lodd_0 (.seq s_Lodd_1 (.seq s_Lodd_2 (.seq s_Lodd_3 .nil))))
def d_Lodd : DD := ⟨"_law_odd", ["_law_pen_here", "_law_some"], 1, b_Lodd, top 43, []⟩
/-- _law_made: 0 _law_one, 1 _law_two, 2 _law_found -/
def s_Lmade_0 : Mp.S := (.asg 2 (.lst false (.cons (.new "InvalidKey" (.cons (.v 0) .nil)) (.cons (.new "InvalidValue" (.cons (.v 0) .nil)) (.cons (.new "InvalidView" (.cons (.v 0) .nil)) (.cons (.new "InvalidLoss" (.cons (.v 0) .nil)) .nil))))))
def s_Lmade_1 : Mp.S := (.asg 2 (.bin false .Add (.v 2) (.lst false (.cons (.new "InvalidPages" (.cons (.v 0) .nil)) (.cons (.new "InvalidRow" (.cons (.v 0) .nil)) (.cons (.new "InvalidText" (.cons (.v 0) (.cons (.v 1) .nil))) (.cons (.new "Barred" (.cons (.v 0) .nil)) (.cons (.new "Unplayed" (.cons (.v 0) .nil)) .nil))))))))
def s_Lmade_2 : Mp.S := (.asg 2 (.bin false .Add (.v 2) (.lst false (.cons (.new "TooFew" (.cons (.v 0) .nil)) (.cons (.new "UnknownCommand" .nil) (.cons (.new "NameTaken" (.cons (.v 0) .nil)) (.cons (.new "Ended" .nil) (.cons (.new "Cancelled" .nil) (.cons (.new "NotOuter" .nil) .nil)))))))))
def s_Lmade_3 : Mp.S := (.asg 2 (.bin false .Add (.v 2) (.lst false (.cons (.new "Strayed" (.cons (.v 0) .nil)) (.cons (.new "Busy" (.cons (.v 0) .nil)) (.cons (.new "Blocked" (.cons (.v 0) .nil)) (.cons (.new "Taken" (.cons (.v 0) .nil)) (.cons (.new "Unsettled" (.cons (.v 0) .nil)) (.cons (.new "NoKey" (.cons (.v 0) .nil)) .nil)))))))))
def s_Lmade_4 : Mp.S := (.asg 2 (.bin false .Add (.v 2) (.lst false (.cons (.new "NoName" (.cons (.v 0) .nil)) (.cons (.new "NoPage" (.cons (.v 0) .nil)) (.cons (.new "NoRow" (.cons (.v 0) .nil)) (.cons (.new "NoSlot" (.cons (.v 0) .nil)) (.cons (.new "NotDead" (.cons (.v 0) .nil)) (.cons (.new "NotPrepared" (.cons (.v 0) .nil)) .nil)))))))))
def s_Lmade_5 : Mp.S := (.asg 2 (.bin false .Add (.v 2) (.lst false (.cons (.new "NotSpan" (.cons (.v 0) .nil)) (.cons (.new "NotCleaning" (.cons (.v 0) .nil)) (.cons (.new "NoNumber" (.cons (.v 0) .nil)) (.cons (.new "NoTransaction" (.cons (.v 0) .nil)) (.cons (.new "Full" .nil) (.cons (.new "TooDeep" (.cons (.v 0) .nil)) .nil)))))))))
def s_Lmade_6 : Mp.S := (.asg 2 (.bin false .Add (.v 2) (.lst false (.cons (.new "TooLong" (.cons (.v 0) .nil)) .nil))))
def s_Lmade_7 : Mp.S := (.ret (.v 2))
def b_Lmade : Mp.S := (.seq s_Lmade_0 (.seq s_Lmade_1 (.seq s_Lmade_2 (.seq s_Lmade_3 (.seq s_Lmade_4 (.seq s_Lmade_5 (.seq s_Lmade_6 (.seq s_Lmade_7 .nil))))))))
def d_Lmade : DD := ⟨"_law_made", ["_law_one", "_law_two", "_law_found"], 2, b_Lmade, top 44, []⟩
/-- _law_marks: 0 _law_error, 1 _law_found -/
def s_Lmarks_0 : Mp.S := (.asg 1 (.lst false (.cons (.isx (.v 0) "InvalidKey") (.cons (.isx (.v 0) "InvalidValue") .nil))))
def s_Lmarks_1 : Mp.S := (.asg 1 (.bin false .Add (.v 1) (.lst false (.cons (.isx (.v 0) "InvalidView") (.cons (.isx (.v 0) "InvalidLoss") .nil)))))
def s_Lmarks_2 : Mp.S := (.asg 1 (.bin false .Add (.v 1) (.lst false (.cons (.isx (.v 0) "InvalidPages") (.cons (.isx (.v 0) "InvalidRow") .nil)))))
def s_Lmarks_3 : Mp.S := (.asg 1 (.bin false .Add (.v 1) (.lst false (.cons (.isx (.v 0) "InvalidText") (.cons (.isx (.v 0) "Barred") (.cons (.isx (.v 0) "Unplayed") .nil))))))
def s_Lmarks_4 : Mp.S := (.asg 1 (.bin false .Add (.v 1) (.lst false (.cons (.isx (.v 0) "TooFew") (.cons (.isx (.v 0) "UnknownCommand") .nil)))))
def s_Lmarks_5 : Mp.S := (.asg 1 (.bin false .Add (.v 1) (.lst false (.cons (.isx (.v 0) "NameTaken") (.cons (.isx (.v 0) "Ended") (.cons (.isx (.v 0) "Cancelled") .nil))))))
def s_Lmarks_6 : Mp.S := (.asg 1 (.bin false .Add (.v 1) (.lst false (.cons (.isx (.v 0) "NotOuter") (.cons (.isx (.v 0) "Strayed") (.cons (.isx (.v 0) "Busy") .nil))))))
def s_Lmarks_7 : Mp.S := (.asg 1 (.bin false .Add (.v 1) (.lst false (.cons (.isx (.v 0) "Blocked") (.cons (.isx (.v 0) "Taken") (.cons (.isx (.v 0) "Unsettled") .nil))))))
def s_Lmarks_8 : Mp.S := (.asg 1 (.bin false .Add (.v 1) (.lst false (.cons (.isx (.v 0) "NoKey") (.cons (.isx (.v 0) "NoName") (.cons (.isx (.v 0) "NoPage") .nil))))))
def s_Lmarks_9 : Mp.S := (.asg 1 (.bin false .Add (.v 1) (.lst false (.cons (.isx (.v 0) "NoRow") (.cons (.isx (.v 0) "NoSlot") (.cons (.isx (.v 0) "NotDead") .nil))))))
def s_Lmarks_10 : Mp.S := (.asg 1 (.bin false .Add (.v 1) (.lst false (.cons (.isx (.v 0) "NotPrepared") (.cons (.isx (.v 0) "NotSpan") .nil)))))
def s_Lmarks_11 : Mp.S := (.asg 1 (.bin false .Add (.v 1) (.lst false (.cons (.isx (.v 0) "NotCleaning") (.cons (.isx (.v 0) "NoNumber") .nil)))))
def s_Lmarks_12 : Mp.S := (.asg 1 (.bin false .Add (.v 1) (.lst false (.cons (.isx (.v 0) "NoTransaction") (.cons (.isx (.v 0) "Full") (.cons (.isx (.v 0) "TooDeep") .nil))))))
def s_Lmarks_13 : Mp.S := (.asg 1 (.bin false .Add (.v 1) (.lst false (.cons (.isx (.v 0) "TooLong") .nil))))
def s_Lmarks_14 : Mp.S := (.ret (.v 1))
def b_Lmarks : Mp.S := (.seq s_Lmarks_0 (.seq s_Lmarks_1 (.seq s_Lmarks_2 (.seq s_Lmarks_3 (.seq s_Lmarks_4 (.seq s_Lmarks_5 (.seq s_Lmarks_6 (.seq s_Lmarks_7 (.seq s_Lmarks_8 (.seq s_Lmarks_9 (.seq s_Lmarks_10 (.seq s_Lmarks_11 (.seq s_Lmarks_12 (.seq s_Lmarks_13 (.seq s_Lmarks_14 .nil)))))))))))))))
def d_Lmarks : DD := ⟨"_law_marks", ["_law_error", "_law_found"], 1, b_Lmarks, top 45, []⟩
/-- _law_bases: 0 _law_error, 1 _law_found -/
def s_Lbases_0 : Mp.S := (.asg 1 (.lst false (.cons (.isx (.v 0) "HoldError") (.cons (.isx (.v 0) "TurnError") (.cons (.isx (.v 0) "AbsentError") .nil)))))
def s_Lbases_1 : Mp.S := (.asg 1 (.bin false .Add (.v 1) (.lst false (.cons (.isx (.v 0) "SizeError") (.cons (.isx (.v 0) "ValueError") (.cons (.isx (.v 0) "RuntimeError") .nil))))))
def s_Lbases_2 : Mp.S := (.ret (.bin false .Add (.v 1) (.lst false (.cons (.isx (.v 0) "LookupError") (.cons (.isx (.v 0) "OverflowError") .nil)))))
def b_Lbases : Mp.S := (.seq s_Lbases_0 (.seq s_Lbases_1 (.seq s_Lbases_2 .nil)))
def d_Lbases : DD := ⟨"_law_bases", ["_law_error", "_law_found"], 1, b_Lbases, top 46, []⟩
/-- _law_kept: 0 _law_one, 1 _law_two, 2 _law_told -/
def s_Lkept_0 : Mp.S := (.asg 2 (.lst false (.cons (.fld (.new "InvalidKey" (.cons (.v 0) .nil)) "value") (.cons (.fld (.new "InvalidValue" (.cons (.v 0) .nil)) "value") (.cons (.fld (.new "InvalidView" (.cons (.v 0) .nil)) "value") (.cons (.fld (.new "InvalidLoss" (.cons (.v 0) .nil)) "value") .nil))))))
def s_Lkept_1 : Mp.S := (.asg 2 (.bin false .Add (.v 2) (.lst false (.cons (.fld (.new "InvalidPages" (.cons (.v 0) .nil)) "value") (.cons (.fld (.new "InvalidRow" (.cons (.v 0) .nil)) "index") (.cons (.fld (.new "InvalidText" (.cons (.v 0) (.cons (.v 1) .nil))) "line") (.cons (.fld (.new "Barred" (.cons (.v 0) .nil)) "bar") .nil)))))))
def s_Lkept_2 : Mp.S := (.asg 2 (.bin false .Add (.v 2) (.lst false (.cons (.fld (.new "Unplayed" (.cons (.v 0) .nil)) "index") (.cons (.fld (.new "TooFew" (.cons (.v 0) .nil)) "least") (.cons (.fld (.new "NameTaken" (.cons (.v 0) .nil)) "name") (.cons (.fld (.new "Strayed" (.cons (.v 0) .nil)) "index") (.cons (.fld (.new "Busy" (.cons (.v 0) .nil)) "number") .nil))))))))
def s_Lkept_3 : Mp.S := (.asg 2 (.bin false .Add (.v 2) (.lst false (.cons (.fld (.new "Blocked" (.cons (.v 0) .nil)) "number") (.cons (.fld (.new "Taken" (.cons (.v 0) .nil)) "key") (.cons (.fld (.new "Unsettled" (.cons (.v 0) .nil)) "number") (.cons (.fld (.new "NoKey" (.cons (.v 0) .nil)) "key") (.cons (.fld (.new "NoName" (.cons (.v 0) .nil)) "name") .nil))))))))
def s_Lkept_4 : Mp.S := (.asg 2 (.bin false .Add (.v 2) (.lst false (.cons (.fld (.new "NoPage" (.cons (.v 0) .nil)) "page") (.cons (.fld (.new "NoRow" (.cons (.v 0) .nil)) "index") (.cons (.fld (.new "NoSlot" (.cons (.v 0) .nil)) "slot") (.cons (.fld (.new "NotDead" (.cons (.v 0) .nil)) "slot") (.cons (.fld (.new "NotPrepared" (.cons (.v 0) .nil)) "number") .nil))))))))
def s_Lkept_5 : Mp.S := (.asg 2 (.bin false .Add (.v 2) (.lst false (.cons (.fld (.new "NotSpan" (.cons (.v 0) .nil)) "row") (.cons (.fld (.new "NotCleaning" (.cons (.v 0) .nil)) "row") (.cons (.fld (.new "NoNumber" (.cons (.v 0) .nil)) "number") (.cons (.fld (.new "NoTransaction" (.cons (.v 0) .nil)) "number") .nil)))))))
def s_Lkept_6 : Mp.S := (.asg 2 (.bin false .Add (.v 2) (.lst false (.cons (.fld (.new "TooDeep" (.cons (.v 0) .nil)) "limit") (.cons (.fld (.new "TooLong" (.cons (.v 0) .nil)) "limit") .nil)))))
def s_Lkept_7 : Mp.S := (.ret (.andL (.cons (.cmp .Eq (.bi .repr (.cons (.v 2) .nil)) (.bi .repr (.cons (.bin false .Mult (.lst false (.cons (.v 0) .nil)) (.k (.int 29))) .nil))) (.cons (.cmp .Eq (.bi .repr (.cons (.fld (.new "InvalidText" (.cons (.v 0) (.cons (.v 1) .nil))) "word") .nil)) (.bi .repr (.cons (.v 1) .nil))) .nil))))
def b_Lkept : Mp.S := (.seq s_Lkept_0 (.seq s_Lkept_1 (.seq s_Lkept_2 (.seq s_Lkept_3 (.seq s_Lkept_4 (.seq s_Lkept_5 (.seq s_Lkept_6 (.seq s_Lkept_7 .nil))))))))
def d_Lkept : DD := ⟨"_law_kept", ["_law_one", "_law_two", "_law_told"], 2, b_Lkept, top 47, []⟩
/-- _law_kept_by_name: 0 _law_one, 1 _law_two, 2 _law_text, 3 _law_told -/
def s_Lkept_by_name_0 : Mp.S := (.asg 2 (.newk "InvalidText" ["word", "line"] (.cons (.v 1) (.cons (.v 0) .nil))))
def s_Lkept_by_name_1 : Mp.S := (.asg 3 (.lst false (.cons (.fld (.newk "InvalidKey" ["value"] (.cons (.v 0) .nil)) "value") (.cons (.fld (.newk "InvalidValue" ["value"] (.cons (.v 0) .nil)) "value") (.cons (.fld (.newk "InvalidView" ["value"] (.cons (.v 0) .nil)) "value") (.cons (.fld (.v 2) "line") .nil))))))
def s_Lkept_by_name_2 : Mp.S := (.asg 3 (.bin false .Add (.v 3) (.lst false (.cons (.fld (.newk "InvalidLoss" ["value"] (.cons (.v 0) .nil)) "value") (.cons (.fld (.newk "InvalidPages" ["value"] (.cons (.v 0) .nil)) "value") (.cons (.fld (.newk "InvalidRow" ["index"] (.cons (.v 0) .nil)) "index") .nil))))))
def s_Lkept_by_name_3 : Mp.S := (.asg 3 (.bin false .Add (.v 3) (.lst false (.cons (.fld (.newk "Barred" ["bar"] (.cons (.v 0) .nil)) "bar") (.cons (.fld (.newk "Unplayed" ["index"] (.cons (.v 0) .nil)) "index") (.cons (.fld (.newk "TooFew" ["least"] (.cons (.v 0) .nil)) "least") (.cons (.fld (.newk "NameTaken" ["name"] (.cons (.v 0) .nil)) "name") .nil)))))))
def s_Lkept_by_name_4 : Mp.S := (.asg 3 (.bin false .Add (.v 3) (.lst false (.cons (.fld (.newk "Strayed" ["index"] (.cons (.v 0) .nil)) "index") (.cons (.fld (.newk "Busy" ["number"] (.cons (.v 0) .nil)) "number") (.cons (.fld (.newk "Blocked" ["number"] (.cons (.v 0) .nil)) "number") (.cons (.fld (.newk "Taken" ["key"] (.cons (.v 0) .nil)) "key") .nil)))))))
def s_Lkept_by_name_5 : Mp.S := (.asg 3 (.bin false .Add (.v 3) (.lst false (.cons (.fld (.newk "Unsettled" ["number"] (.cons (.v 0) .nil)) "number") (.cons (.fld (.newk "NoKey" ["key"] (.cons (.v 0) .nil)) "key") (.cons (.fld (.newk "NoName" ["name"] (.cons (.v 0) .nil)) "name") (.cons (.fld (.newk "NoPage" ["page"] (.cons (.v 0) .nil)) "page") .nil)))))))
def s_Lkept_by_name_6 : Mp.S := (.asg 3 (.bin false .Add (.v 3) (.lst false (.cons (.fld (.newk "NoRow" ["index"] (.cons (.v 0) .nil)) "index") (.cons (.fld (.newk "NoSlot" ["slot"] (.cons (.v 0) .nil)) "slot") (.cons (.fld (.newk "NotDead" ["slot"] (.cons (.v 0) .nil)) "slot") (.cons (.fld (.newk "NotSpan" ["row"] (.cons (.v 0) .nil)) "row") .nil)))))))
def s_Lkept_by_name_7 : Mp.S := (.asg 3 (.bin false .Add (.v 3) (.lst false (.cons (.fld (.newk "NotPrepared" ["number"] (.cons (.v 0) .nil)) "number") (.cons (.fld (.newk "NotCleaning" ["row"] (.cons (.v 0) .nil)) "row") (.cons (.fld (.newk "NoNumber" ["number"] (.cons (.v 0) .nil)) "number") .nil))))))
def s_Lkept_by_name_8 : Mp.S := (.asg 3 (.bin false .Add (.v 3) (.lst false (.cons (.fld (.newk "NoTransaction" ["number"] (.cons (.v 0) .nil)) "number") (.cons (.fld (.newk "TooDeep" ["limit"] (.cons (.v 0) .nil)) "limit") (.cons (.fld (.newk "TooLong" ["limit"] (.cons (.v 0) .nil)) "limit") .nil))))))
def s_Lkept_by_name_9 : Mp.S := (.ret (.andL (.cons (.cmp .Eq (.bi .repr (.cons (.v 3) .nil)) (.bi .repr (.cons (.bin false .Mult (.lst false (.cons (.v 0) .nil)) (.k (.int 29))) .nil))) (.cons (.cmp .Eq (.bi .repr (.cons (.fld (.v 2) "word") .nil)) (.bi .repr (.cons (.v 1) .nil))) .nil))))
def b_Lkept_by_name : Mp.S := (.seq s_Lkept_by_name_0 (.seq s_Lkept_by_name_1 (.seq s_Lkept_by_name_2 (.seq s_Lkept_by_name_3 (.seq s_Lkept_by_name_4 (.seq s_Lkept_by_name_5 (.seq s_Lkept_by_name_6 (.seq s_Lkept_by_name_7 (.seq s_Lkept_by_name_8 (.seq s_Lkept_by_name_9 .nil))))))))))
def d_Lkept_by_name : DD := ⟨"_law_kept_by_name", ["_law_one", "_law_two", "_law_text", "_law_told"], 2, b_Lkept_by_name, top 48, []⟩
/-- law: 0 _law_script, 1 _law_pen_here, 2 _law_turn, 3 _law_errors, 4 _law_k, 5 _law_one, 6 _law_two, 7 _law_family, 8 _law_j -/
def s_law_0 : Mp.S := (.asg 1 (.call "_law_pen" (.cons (.v 0) .nil)))
def s_law_1 : Mp.S := (.par 5 6 (.cons (.call "_law_odd" (.cons (.v 1) .nil)) (.cons (.call "_law_odd" (.cons (.v 1) .nil)) .nil)))
def s_law_2 : Mp.S := (.asg 3 (.call "_law_made" (.cons (.v 5) (.cons (.v 6) .nil))))
def c_law_0 : Mp.E := (.lc false (.one 8) (.rng (.cons (.k (.int 34)) .nil)) .no (.cmp .Eq (.v 4) (.v 8)))
def s_law_3 : Mp.S := (.ife (.cmp .NotEq (.call "_law_marks" (.cons (.ix (.v 3) (.v 4)) .nil)) c_law_0) (.seq (.ret (.k (.bl false)))
  .nil) .nil)
def s_law_4 : Mp.S := (.asg 7 (.lst false (.cons (.cmp .Lt (.v 4) (.k (.int 12))) (.cons (.chain .LtE .Lt (.k (.int 12)) (.v 4) (.k (.int 20))) (.cons (.chain .LtE .Lt (.k (.int 20)) (.v 4) (.k (.int 31))) (.cons (.cmp .Gt (.v 4) (.k (.int 30))) .nil))))))
def s_law_5 : Mp.S := (.ife (.cmp .NotEq (.call "_law_bases" (.cons (.ix (.v 3) (.v 4)) .nil)) (.bin false .Add (.v 7) (.v 7))) (.seq (.ret (.k (.bl false)))
  .nil) .nil)
def f_law_0 : Mp.S := (.seq s_law_3 (.seq s_law_4 (.seq s_law_5 .nil)))
def s_law_6 : Mp.S := (.for_ (.one 4) (.rng (.cons (.k (.int 34)) .nil)) f_law_0)
def s_law_7 : Mp.S := (.ife (.orL (.cons (.not1 (.call "_law_kept" (.cons (.v 5) (.cons (.v 6) .nil)))) (.cons (.not1 (.call "_law_kept_by_name" (.cons (.v 5) (.cons (.v 6) .nil)))) .nil))) (.seq (.ret (.k (.bl false)))
  .nil) .nil)
def f_law_1 : Mp.S := (.seq s_law_1 (.seq s_law_2 (.seq s_law_6 (.seq s_law_7 .nil))))
def s_law_8 : Mp.S := (.for_ (.one 2) (.rng (.cons (.k (.int 4)) .nil)) f_law_1)
def s_law_9 : Mp.S := (.ret (.k (.bl true)))
def b_law : Mp.S := (.seq s_law_0 (.seq s_law_8 (.seq s_law_9 .nil)))
def d_law : DD := ⟨"law", ["_law_script", "_law_pen_here", "_law_turn", "_law_errors", "_law_k", "_law_one", "_law_two", "_law_family", "_law_j"], 1, b_law, top 49, []⟩
def x_InvalidKey : XD := ⟨"InvalidKey", 0, ["value"], ["InvalidKey", "HoldError", "ValueError"], inCls (top 5) 0, [(["value"], [0])]⟩
def x_InvalidValue : XD := ⟨"InvalidValue", 0, ["value"], ["InvalidValue", "HoldError", "ValueError"], inCls (top 6) 0, [(["value"], [0])]⟩
def x_InvalidView : XD := ⟨"InvalidView", 0, ["value"], ["InvalidView", "HoldError", "ValueError"], inCls (top 7) 0, [(["value"], [0])]⟩
def x_InvalidLoss : XD := ⟨"InvalidLoss", 0, ["value"], ["InvalidLoss", "HoldError", "ValueError"], inCls (top 8) 0, [(["value"], [0])]⟩
def x_InvalidPages : XD := ⟨"InvalidPages", 0, ["value"], ["InvalidPages", "HoldError", "ValueError"], inCls (top 9) 0, [(["value"], [0])]⟩
def x_InvalidRow : XD := ⟨"InvalidRow", 0, ["index"], ["InvalidRow", "HoldError", "ValueError"], inCls (top 10) 0, [(["index"], [0])]⟩
def x_InvalidText : XD := ⟨"InvalidText", 0, ["line", "word"], ["InvalidText", "HoldError", "ValueError"], inCls (top 11) 0, [(["word", "line"], [1, 0])]⟩
def x_Barred : XD := ⟨"Barred", 0, ["bar"], ["Barred", "HoldError", "ValueError"], inCls (top 12) 0, [(["bar"], [0])]⟩
def x_Unplayed : XD := ⟨"Unplayed", 0, ["index"], ["Unplayed", "HoldError", "ValueError"], inCls (top 13) 0, [(["index"], [0])]⟩
def x_TooFew : XD := ⟨"TooFew", 0, ["least"], ["TooFew", "HoldError", "ValueError"], inCls (top 14) 0, [(["least"], [0])]⟩
def x_UnknownCommand : XD := ⟨"UnknownCommand", 0, [], ["UnknownCommand", "HoldError", "ValueError"], inCls (top 15) 0, []⟩
def x_NameTaken : XD := ⟨"NameTaken", 0, ["name"], ["NameTaken", "HoldError", "ValueError"], inCls (top 16) 0, [(["name"], [0])]⟩
def x_Ended : XD := ⟨"Ended", 1, [], ["Ended", "TurnError", "RuntimeError"], inCls (top 17) 0, []⟩
def x_Cancelled : XD := ⟨"Cancelled", 1, [], ["Cancelled", "TurnError", "RuntimeError"], inCls (top 18) 0, []⟩
def x_NotOuter : XD := ⟨"NotOuter", 1, [], ["NotOuter", "TurnError", "RuntimeError"], inCls (top 19) 0, []⟩
def x_Strayed : XD := ⟨"Strayed", 1, ["index"], ["Strayed", "TurnError", "RuntimeError"], inCls (top 20) 0, [(["index"], [0])]⟩
def x_Busy : XD := ⟨"Busy", 1, ["number"], ["Busy", "TurnError", "RuntimeError"], inCls (top 21) 0, [(["number"], [0])]⟩
def x_Blocked : XD := ⟨"Blocked", 1, ["number"], ["Blocked", "TurnError", "RuntimeError"], inCls (top 22) 0, [(["number"], [0])]⟩
def x_Taken : XD := ⟨"Taken", 1, ["key"], ["Taken", "TurnError", "RuntimeError"], inCls (top 23) 0, [(["key"], [0])]⟩
def x_Unsettled : XD := ⟨"Unsettled", 1, ["number"], ["Unsettled", "TurnError", "RuntimeError"], inCls (top 24) 0, [(["number"], [0])]⟩
def x_NoKey : XD := ⟨"NoKey", 2, ["key"], ["NoKey", "AbsentError", "LookupError"], inCls (top 25) 0, [(["key"], [0])]⟩
def x_NoName : XD := ⟨"NoName", 2, ["name"], ["NoName", "AbsentError", "LookupError"], inCls (top 26) 0, [(["name"], [0])]⟩
def x_NoPage : XD := ⟨"NoPage", 2, ["page"], ["NoPage", "AbsentError", "LookupError"], inCls (top 27) 0, [(["page"], [0])]⟩
def x_NoRow : XD := ⟨"NoRow", 2, ["index"], ["NoRow", "AbsentError", "LookupError"], inCls (top 28) 0, [(["index"], [0])]⟩
def x_NoSlot : XD := ⟨"NoSlot", 2, ["slot"], ["NoSlot", "AbsentError", "LookupError"], inCls (top 29) 0, [(["slot"], [0])]⟩
def x_NotDead : XD := ⟨"NotDead", 2, ["slot"], ["NotDead", "AbsentError", "LookupError"], inCls (top 30) 0, [(["slot"], [0])]⟩
def x_NotPrepared : XD := ⟨"NotPrepared", 2, ["number"], ["NotPrepared", "AbsentError", "LookupError"], inCls (top 31) 0, [(["number"], [0])]⟩
def x_NotSpan : XD := ⟨"NotSpan", 2, ["row"], ["NotSpan", "AbsentError", "LookupError"], inCls (top 32) 0, [(["row"], [0])]⟩
def x_NotCleaning : XD := ⟨"NotCleaning", 2, ["row"], ["NotCleaning", "AbsentError", "LookupError"], inCls (top 33) 0, [(["row"], [0])]⟩
def x_NoNumber : XD := ⟨"NoNumber", 2, ["number"], ["NoNumber", "AbsentError", "LookupError"], inCls (top 34) 0, [(["number"], [0])]⟩
def x_NoTransaction : XD := ⟨"NoTransaction", 2, ["number"], ["NoTransaction", "AbsentError", "LookupError"], inCls (top 35) 0, [(["number"], [0])]⟩
def x_Full : XD := ⟨"Full", 3, [], ["Full", "SizeError", "OverflowError"], inCls (top 36) 0, []⟩
def x_TooDeep : XD := ⟨"TooDeep", 3, ["limit"], ["TooDeep", "SizeError", "OverflowError"], inCls (top 37) 0, [(["limit"], [0])]⟩
def x_TooLong : XD := ⟨"TooLong", 3, ["limit"], ["TooLong", "SizeError", "OverflowError"], inCls (top 38) 0, [(["limit"], [0])]⟩
def ocL0 : List Str := ["HoldError", "TurnError", "AbsentError", "SizeError", "InvalidKey", "InvalidValue", "InvalidView", "InvalidLoss", "InvalidPages", "InvalidRow", "InvalidText", "Barred", "Unplayed", "TooFew", "UnknownCommand", "NameTaken", "Ended", "Cancelled", "NotOuter", "Strayed"]
def ocL1 : List Str := ["Busy", "Blocked", "Taken", "Unsettled", "NoKey", "NoName", "NoPage", "NoRow", "NoSlot", "NotDead", "NotPrepared", "NotSpan", "NotCleaning", "NoNumber", "NoTransaction", "Full", "TooDeep", "TooLong"]
def ocL : List Str := ocL0 ++ ocL1
def kxL0 : List Str := ["InvalidKey", "InvalidValue", "InvalidView", "InvalidLoss", "InvalidPages", "InvalidRow", "InvalidText", "Barred", "Unplayed", "TooFew", "UnknownCommand", "NameTaken", "Ended", "Cancelled", "NotOuter", "Strayed", "Busy", "Blocked", "Taken", "Unsettled"]
def kxL1 : List Str := ["NoKey", "NoName", "NoPage", "NoRow", "NoSlot", "NotDead", "NotPrepared", "NotSpan", "NotCleaning", "NoNumber", "NoTransaction", "Full", "TooDeep", "TooLong", "HoldError", "TurnError", "AbsentError", "SizeError", "ValueError", "RuntimeError"]
def kxL2 : List Str := ["LookupError", "OverflowError"]
def kxL : List Str := kxL0 ++ kxL1 ++ kxL2
def frL0 : List Str := ["LookupError", "OverflowError", "RuntimeError", "ValueError", "abs", "int", "isinstance", "len", "list", "range", "repr", "super"]
def frL : List Str := frL0
def lw : Lw := ⟨[d_Lpen, d_Ldraw, d_Lpick, d_Lodd, d_Lmade, d_Lmarks, d_Lbases, d_Lkept, d_Lkept_by_name, d_law], [], frL, [], [x_InvalidKey, x_InvalidValue, x_InvalidView, x_InvalidLoss, x_InvalidPages, x_InvalidRow, x_InvalidText, x_Barred, x_Unplayed, x_TooFew, x_UnknownCommand, x_NameTaken, x_Ended, x_Cancelled, x_NotOuter, x_Strayed, x_Busy, x_Blocked, x_Taken, x_Unsettled, x_NoKey, x_NoName, x_NoPage, x_NoRow, x_NoSlot, x_NotDead, x_NotPrepared, x_NotSpan, x_NotCleaning, x_NoNumber, x_NoTransaction, x_Full, x_TooDeep, x_TooLong], ocL, kxL, fileN⟩
theorem fd_Lpen : findD "_law_pen" lw.T = some d_Lpen := by kernel_rfl
theorem at_Lpen (K : PySem.W.Frag) (k : Nat) (a0 : D) (h : AH) : lw.phi K (k + 1) "_law_pen" [a0] h = (ex (lw.m K k) b_Lpen [some a0] h).toR := by
  rw [phi_at fd_Lpen]
  rfl
theorem fd_Ldraw : findD "_law_draw" lw.T = some d_Ldraw := by kernel_rfl
theorem at_Ldraw (K : PySem.W.Frag) (k : Nat) (a0 a1 : D) (h : AH) : lw.phi K (k + 1) "_law_draw" [a0, a1] h = (ex (lw.m K k) b_Ldraw [some a0, some a1, none, none, none, none, none] h).toR := by
  rw [phi_at fd_Ldraw]
  rfl
theorem fd_Lpick : findD "_law_pick" lw.T = some d_Lpick := by kernel_rfl
theorem at_Lpick (K : PySem.W.Frag) (k : Nat) (a0 a1 : D) (h : AH) : lw.phi K (k + 1) "_law_pick" [a0, a1] h = (ex (lw.m K k) b_Lpick [some a0, some a1] h).toR := by
  rw [phi_at fd_Lpick]
  rfl
theorem fd_Lodd : findD "_law_odd" lw.T = some d_Lodd := by kernel_rfl
theorem at_Lodd (K : PySem.W.Frag) (k : Nat) (a0 : D) (h : AH) : lw.phi K (k + 1) "_law_odd" [a0] h = (ex (lw.m K k) b_Lodd [some a0, none] h).toR := by
  rw [phi_at fd_Lodd]
  rfl
theorem fd_Lmade : findD "_law_made" lw.T = some d_Lmade := by kernel_rfl
theorem at_Lmade (K : PySem.W.Frag) (k : Nat) (a0 a1 : D) (h : AH) : lw.phi K (k + 1) "_law_made" [a0, a1] h = (ex (lw.m K k) b_Lmade [some a0, some a1, none] h).toR := by
  rw [phi_at fd_Lmade]
  rfl
theorem fd_Lmarks : findD "_law_marks" lw.T = some d_Lmarks := by kernel_rfl
theorem at_Lmarks (K : PySem.W.Frag) (k : Nat) (a0 : D) (h : AH) : lw.phi K (k + 1) "_law_marks" [a0] h = (ex (lw.m K k) b_Lmarks [some a0, none] h).toR := by
  rw [phi_at fd_Lmarks]
  rfl
theorem fd_Lbases : findD "_law_bases" lw.T = some d_Lbases := by kernel_rfl
theorem at_Lbases (K : PySem.W.Frag) (k : Nat) (a0 : D) (h : AH) : lw.phi K (k + 1) "_law_bases" [a0] h = (ex (lw.m K k) b_Lbases [some a0, none] h).toR := by
  rw [phi_at fd_Lbases]
  rfl
theorem fd_Lkept : findD "_law_kept" lw.T = some d_Lkept := by kernel_rfl
theorem at_Lkept (K : PySem.W.Frag) (k : Nat) (a0 a1 : D) (h : AH) : lw.phi K (k + 1) "_law_kept" [a0, a1] h = (ex (lw.m K k) b_Lkept [some a0, some a1, none] h).toR := by
  rw [phi_at fd_Lkept]
  rfl
theorem fd_Lkept_by_name : findD "_law_kept_by_name" lw.T = some d_Lkept_by_name := by kernel_rfl
theorem at_Lkept_by_name (K : PySem.W.Frag) (k : Nat) (a0 a1 : D) (h : AH) : lw.phi K (k + 1) "_law_kept_by_name" [a0, a1] h = (ex (lw.m K k) b_Lkept_by_name [some a0, some a1, none, none] h).toR := by
  rw [phi_at fd_Lkept_by_name]
  rfl
theorem fd_law : findD "law" lw.T = some d_law := by kernel_rfl
theorem at_law (K : PySem.W.Frag) (k : Nat) (a0 : D) (h : AH) : lw.phi K (k + 1) "law" [a0] h = (ex (lw.m K k) b_law [some a0, none, none, none, none, none, none, none, none] h).toR := by
  rw [phi_at fd_law]
  rfl
theorem ok_Lpen : DDok d_Lpen := ⟨by decide +kernel, rfl, fun _ _ _ _ _ _ us hl => match us, hl with | [_], _ => rfl, (fun _ h => nomatch h)⟩
theorem ck_Lpen (K : PySem.W.Frag) (k : Nat) (Φ : Str → List D → AH → R D) : chkB (lw.mdl K Φ k) d_Lpen.N d_Lpen.body (defScope d_Lpen.st) (defBody d_Lpen.st) = true := by kernel_rfl
theorem ok_Ldraw : DDok d_Ldraw := ⟨by decide +kernel, rfl, fun _ _ _ _ _ _ us hl => match us, hl with | [_, _], _ => rfl, (fun _ h => nomatch h)⟩
theorem ck_Ldraw (K : PySem.W.Frag) (k : Nat) (Φ : Str → List D → AH → R D) : chkB (lw.mdl K Φ k) d_Ldraw.N d_Ldraw.body (defScope d_Ldraw.st) (defBody d_Ldraw.st) = true := by kernel_rfl
theorem ok_Lpick : DDok d_Lpick := ⟨by decide +kernel, rfl, fun _ _ _ _ _ _ us hl => match us, hl with | [_, _], _ => rfl, (fun _ h => nomatch h)⟩
theorem ck_Lpick (K : PySem.W.Frag) (k : Nat) (Φ : Str → List D → AH → R D) : chkB (lw.mdl K Φ k) d_Lpick.N d_Lpick.body (defScope d_Lpick.st) (defBody d_Lpick.st) = true := by kernel_rfl
theorem ok_Lodd : DDok d_Lodd := ⟨by decide +kernel, rfl, fun _ _ _ _ _ _ us hl => match us, hl with | [_], _ => rfl, (fun _ h => nomatch h)⟩
theorem ck_Lodd (K : PySem.W.Frag) (k : Nat) (Φ : Str → List D → AH → R D) : chkB (lw.mdl K Φ k) d_Lodd.N d_Lodd.body (defScope d_Lodd.st) (defBody d_Lodd.st) = true := by kernel_rfl
theorem ok_Lmade : DDok d_Lmade := ⟨by decide +kernel, rfl, fun _ _ _ _ _ _ us hl => match us, hl with | [_, _], _ => rfl, (fun _ h => nomatch h)⟩
theorem ck_Lmade (K : PySem.W.Frag) (k : Nat) (Φ : Str → List D → AH → R D) : chkB (lw.mdl K Φ k) d_Lmade.N d_Lmade.body (defScope d_Lmade.st) (defBody d_Lmade.st) = true := by kernel_rfl
theorem ok_Lmarks : DDok d_Lmarks := ⟨by decide +kernel, rfl, fun _ _ _ _ _ _ us hl => match us, hl with | [_], _ => rfl, (fun _ h => nomatch h)⟩
theorem ck_Lmarks (K : PySem.W.Frag) (k : Nat) (Φ : Str → List D → AH → R D) : chkB (lw.mdl K Φ k) d_Lmarks.N d_Lmarks.body (defScope d_Lmarks.st) (defBody d_Lmarks.st) = true := by kernel_rfl
theorem ok_Lbases : DDok d_Lbases := ⟨by decide +kernel, rfl, fun _ _ _ _ _ _ us hl => match us, hl with | [_], _ => rfl, (fun _ h => nomatch h)⟩
theorem ck_Lbases (K : PySem.W.Frag) (k : Nat) (Φ : Str → List D → AH → R D) : chkB (lw.mdl K Φ k) d_Lbases.N d_Lbases.body (defScope d_Lbases.st) (defBody d_Lbases.st) = true := by kernel_rfl
theorem ok_Lkept : DDok d_Lkept := ⟨by decide +kernel, rfl, fun _ _ _ _ _ _ us hl => match us, hl with | [_, _], _ => rfl, (fun _ h => nomatch h)⟩
theorem ck_Lkept (K : PySem.W.Frag) (k : Nat) (Φ : Str → List D → AH → R D) : chkB (lw.mdl K Φ k) d_Lkept.N d_Lkept.body (defScope d_Lkept.st) (defBody d_Lkept.st) = true := by kernel_rfl
theorem ok_Lkept_by_name : DDok d_Lkept_by_name := ⟨by decide +kernel, rfl, fun _ _ _ _ _ _ us hl => match us, hl with | [_, _], _ => rfl, (fun _ h => nomatch h)⟩
theorem ck_Lkept_by_name (K : PySem.W.Frag) (k : Nat) (Φ : Str → List D → AH → R D) : chkB (lw.mdl K Φ k) d_Lkept_by_name.N d_Lkept_by_name.body (defScope d_Lkept_by_name.st) (defBody d_Lkept_by_name.st) = true := by kernel_rfl
theorem ok_law : DDok d_law := ⟨by decide +kernel, rfl, fun _ _ _ _ _ _ us hl => match us, hl with | [_], _ => rfl, (fun _ h => nomatch h)⟩
theorem ck_law (K : PySem.W.Frag) (k : Nat) (Φ : Str → List D → AH → R D) : chkB (lw.mdl K Φ k) d_law.N d_law.body (defScope d_law.st) (defBody d_law.st) = true := by kernel_rfl
theorem ok : ∀ d ∈ lw.T, DDok d := List.forall_mem_cons.mpr ⟨ok_Lpen, List.forall_mem_cons.mpr ⟨ok_Ldraw, List.forall_mem_cons.mpr ⟨ok_Lpick, List.forall_mem_cons.mpr ⟨ok_Lodd, List.forall_mem_cons.mpr ⟨ok_Lmade, List.forall_mem_cons.mpr ⟨ok_Lmarks, List.forall_mem_cons.mpr ⟨ok_Lbases, List.forall_mem_cons.mpr ⟨ok_Lkept, List.forall_mem_cons.mpr ⟨ok_Lkept_by_name, List.forall_mem_cons.mpr ⟨ok_law, (fun _ h => nomatch h)⟩⟩⟩⟩⟩⟩⟩⟩⟩⟩
theorem xok_TooLong : XDok x_TooLong := ⟨by decide +kernel, ⟨_, rfl, by decide +kernel⟩, by decide +kernel, by decide +kernel, by decide, by decide +kernel, by decide +kernel, by decide +kernel, by decide +kernel, rfl, by decide +kernel, rfl, rfl, fun _ _ _ _ _ _ _ us hl => match us, hl with | [_, _], _ => rfl, List.forall_mem_cons.mpr ⟨⟨rfl, fun _ _ _ _ _ _ _ _ ws hl => match ws, hl with | [_], _ => rfl⟩, (fun _ h => nomatch h)⟩⟩
theorem xok_TooDeep : XDok x_TooDeep := ⟨by decide +kernel, ⟨_, rfl, by decide +kernel⟩, by decide +kernel, by decide +kernel, by decide, by decide +kernel, by decide +kernel, by decide +kernel, by decide +kernel, rfl, by decide +kernel, rfl, rfl, fun _ _ _ _ _ _ _ us hl => match us, hl with | [_, _], _ => rfl, List.forall_mem_cons.mpr ⟨⟨rfl, fun _ _ _ _ _ _ _ _ ws hl => match ws, hl with | [_], _ => rfl⟩, (fun _ h => nomatch h)⟩⟩
theorem xok_Full : XDok x_Full := ⟨by decide +kernel, ⟨_, rfl, by decide +kernel⟩, by decide +kernel, by decide +kernel, by decide, by decide +kernel, by decide +kernel, by decide +kernel, by decide +kernel, rfl, by decide +kernel, rfl, rfl, fun _ _ _ _ _ _ _ us hl => match us, hl with | [_], _ => rfl, (fun _ h => nomatch h)⟩
theorem xok_NoTransaction : XDok x_NoTransaction := ⟨by decide +kernel, ⟨_, rfl, by decide +kernel⟩, by decide +kernel, by decide +kernel, by decide, by decide +kernel, by decide +kernel, by decide +kernel, by decide +kernel, rfl, by decide +kernel, rfl, rfl, fun _ _ _ _ _ _ _ us hl => match us, hl with | [_, _], _ => rfl, List.forall_mem_cons.mpr ⟨⟨rfl, fun _ _ _ _ _ _ _ _ ws hl => match ws, hl with | [_], _ => rfl⟩, (fun _ h => nomatch h)⟩⟩
theorem xok_NoNumber : XDok x_NoNumber := ⟨by decide +kernel, ⟨_, rfl, by decide +kernel⟩, by decide +kernel, by decide +kernel, by decide, by decide +kernel, by decide +kernel, by decide +kernel, by decide +kernel, rfl, by decide +kernel, rfl, rfl, fun _ _ _ _ _ _ _ us hl => match us, hl with | [_, _], _ => rfl, List.forall_mem_cons.mpr ⟨⟨rfl, fun _ _ _ _ _ _ _ _ ws hl => match ws, hl with | [_], _ => rfl⟩, (fun _ h => nomatch h)⟩⟩
theorem xok_NotCleaning : XDok x_NotCleaning := ⟨by decide +kernel, ⟨_, rfl, by decide +kernel⟩, by decide +kernel, by decide +kernel, by decide, by decide +kernel, by decide +kernel, by decide +kernel, by decide +kernel, rfl, by decide +kernel, rfl, rfl, fun _ _ _ _ _ _ _ us hl => match us, hl with | [_, _], _ => rfl, List.forall_mem_cons.mpr ⟨⟨rfl, fun _ _ _ _ _ _ _ _ ws hl => match ws, hl with | [_], _ => rfl⟩, (fun _ h => nomatch h)⟩⟩
theorem xok_NotSpan : XDok x_NotSpan := ⟨by decide +kernel, ⟨_, rfl, by decide +kernel⟩, by decide +kernel, by decide +kernel, by decide, by decide +kernel, by decide +kernel, by decide +kernel, by decide +kernel, rfl, by decide +kernel, rfl, rfl, fun _ _ _ _ _ _ _ us hl => match us, hl with | [_, _], _ => rfl, List.forall_mem_cons.mpr ⟨⟨rfl, fun _ _ _ _ _ _ _ _ ws hl => match ws, hl with | [_], _ => rfl⟩, (fun _ h => nomatch h)⟩⟩
theorem xok_NotPrepared : XDok x_NotPrepared := ⟨by decide +kernel, ⟨_, rfl, by decide +kernel⟩, by decide +kernel, by decide +kernel, by decide, by decide +kernel, by decide +kernel, by decide +kernel, by decide +kernel, rfl, by decide +kernel, rfl, rfl, fun _ _ _ _ _ _ _ us hl => match us, hl with | [_, _], _ => rfl, List.forall_mem_cons.mpr ⟨⟨rfl, fun _ _ _ _ _ _ _ _ ws hl => match ws, hl with | [_], _ => rfl⟩, (fun _ h => nomatch h)⟩⟩
theorem xok_NotDead : XDok x_NotDead := ⟨by decide +kernel, ⟨_, rfl, by decide +kernel⟩, by decide +kernel, by decide +kernel, by decide, by decide +kernel, by decide +kernel, by decide +kernel, by decide +kernel, rfl, by decide +kernel, rfl, rfl, fun _ _ _ _ _ _ _ us hl => match us, hl with | [_, _], _ => rfl, List.forall_mem_cons.mpr ⟨⟨rfl, fun _ _ _ _ _ _ _ _ ws hl => match ws, hl with | [_], _ => rfl⟩, (fun _ h => nomatch h)⟩⟩
theorem xok_NoSlot : XDok x_NoSlot := ⟨by decide +kernel, ⟨_, rfl, by decide +kernel⟩, by decide +kernel, by decide +kernel, by decide, by decide +kernel, by decide +kernel, by decide +kernel, by decide +kernel, rfl, by decide +kernel, rfl, rfl, fun _ _ _ _ _ _ _ us hl => match us, hl with | [_, _], _ => rfl, List.forall_mem_cons.mpr ⟨⟨rfl, fun _ _ _ _ _ _ _ _ ws hl => match ws, hl with | [_], _ => rfl⟩, (fun _ h => nomatch h)⟩⟩
theorem xok_NoRow : XDok x_NoRow := ⟨by decide +kernel, ⟨_, rfl, by decide +kernel⟩, by decide +kernel, by decide +kernel, by decide, by decide +kernel, by decide +kernel, by decide +kernel, by decide +kernel, rfl, by decide +kernel, rfl, rfl, fun _ _ _ _ _ _ _ us hl => match us, hl with | [_, _], _ => rfl, List.forall_mem_cons.mpr ⟨⟨rfl, fun _ _ _ _ _ _ _ _ ws hl => match ws, hl with | [_], _ => rfl⟩, (fun _ h => nomatch h)⟩⟩
theorem xok_NoPage : XDok x_NoPage := ⟨by decide +kernel, ⟨_, rfl, by decide +kernel⟩, by decide +kernel, by decide +kernel, by decide, by decide +kernel, by decide +kernel, by decide +kernel, by decide +kernel, rfl, by decide +kernel, rfl, rfl, fun _ _ _ _ _ _ _ us hl => match us, hl with | [_, _], _ => rfl, List.forall_mem_cons.mpr ⟨⟨rfl, fun _ _ _ _ _ _ _ _ ws hl => match ws, hl with | [_], _ => rfl⟩, (fun _ h => nomatch h)⟩⟩
theorem xok_NoName : XDok x_NoName := ⟨by decide +kernel, ⟨_, rfl, by decide +kernel⟩, by decide +kernel, by decide +kernel, by decide, by decide +kernel, by decide +kernel, by decide +kernel, by decide +kernel, rfl, by decide +kernel, rfl, rfl, fun _ _ _ _ _ _ _ us hl => match us, hl with | [_, _], _ => rfl, List.forall_mem_cons.mpr ⟨⟨rfl, fun _ _ _ _ _ _ _ _ ws hl => match ws, hl with | [_], _ => rfl⟩, (fun _ h => nomatch h)⟩⟩
theorem xok_NoKey : XDok x_NoKey := ⟨by decide +kernel, ⟨_, rfl, by decide +kernel⟩, by decide +kernel, by decide +kernel, by decide, by decide +kernel, by decide +kernel, by decide +kernel, by decide +kernel, rfl, by decide +kernel, rfl, rfl, fun _ _ _ _ _ _ _ us hl => match us, hl with | [_, _], _ => rfl, List.forall_mem_cons.mpr ⟨⟨rfl, fun _ _ _ _ _ _ _ _ ws hl => match ws, hl with | [_], _ => rfl⟩, (fun _ h => nomatch h)⟩⟩
theorem xok_Unsettled : XDok x_Unsettled := ⟨by decide +kernel, ⟨_, rfl, by decide +kernel⟩, by decide +kernel, by decide +kernel, by decide, by decide +kernel, by decide +kernel, by decide +kernel, by decide +kernel, rfl, by decide +kernel, rfl, rfl, fun _ _ _ _ _ _ _ us hl => match us, hl with | [_, _], _ => rfl, List.forall_mem_cons.mpr ⟨⟨rfl, fun _ _ _ _ _ _ _ _ ws hl => match ws, hl with | [_], _ => rfl⟩, (fun _ h => nomatch h)⟩⟩
theorem xok_Taken : XDok x_Taken := ⟨by decide +kernel, ⟨_, rfl, by decide +kernel⟩, by decide +kernel, by decide +kernel, by decide, by decide +kernel, by decide +kernel, by decide +kernel, by decide +kernel, rfl, by decide +kernel, rfl, rfl, fun _ _ _ _ _ _ _ us hl => match us, hl with | [_, _], _ => rfl, List.forall_mem_cons.mpr ⟨⟨rfl, fun _ _ _ _ _ _ _ _ ws hl => match ws, hl with | [_], _ => rfl⟩, (fun _ h => nomatch h)⟩⟩
theorem xok_Blocked : XDok x_Blocked := ⟨by decide +kernel, ⟨_, rfl, by decide +kernel⟩, by decide +kernel, by decide +kernel, by decide, by decide +kernel, by decide +kernel, by decide +kernel, by decide +kernel, rfl, by decide +kernel, rfl, rfl, fun _ _ _ _ _ _ _ us hl => match us, hl with | [_, _], _ => rfl, List.forall_mem_cons.mpr ⟨⟨rfl, fun _ _ _ _ _ _ _ _ ws hl => match ws, hl with | [_], _ => rfl⟩, (fun _ h => nomatch h)⟩⟩
theorem xok_Busy : XDok x_Busy := ⟨by decide +kernel, ⟨_, rfl, by decide +kernel⟩, by decide +kernel, by decide +kernel, by decide, by decide +kernel, by decide +kernel, by decide +kernel, by decide +kernel, rfl, by decide +kernel, rfl, rfl, fun _ _ _ _ _ _ _ us hl => match us, hl with | [_, _], _ => rfl, List.forall_mem_cons.mpr ⟨⟨rfl, fun _ _ _ _ _ _ _ _ ws hl => match ws, hl with | [_], _ => rfl⟩, (fun _ h => nomatch h)⟩⟩
theorem xok_Strayed : XDok x_Strayed := ⟨by decide +kernel, ⟨_, rfl, by decide +kernel⟩, by decide +kernel, by decide +kernel, by decide, by decide +kernel, by decide +kernel, by decide +kernel, by decide +kernel, rfl, by decide +kernel, rfl, rfl, fun _ _ _ _ _ _ _ us hl => match us, hl with | [_, _], _ => rfl, List.forall_mem_cons.mpr ⟨⟨rfl, fun _ _ _ _ _ _ _ _ ws hl => match ws, hl with | [_], _ => rfl⟩, (fun _ h => nomatch h)⟩⟩
theorem xok_NotOuter : XDok x_NotOuter := ⟨by decide +kernel, ⟨_, rfl, by decide +kernel⟩, by decide +kernel, by decide +kernel, by decide, by decide +kernel, by decide +kernel, by decide +kernel, by decide +kernel, rfl, by decide +kernel, rfl, rfl, fun _ _ _ _ _ _ _ us hl => match us, hl with | [_], _ => rfl, (fun _ h => nomatch h)⟩
theorem xok_Cancelled : XDok x_Cancelled := ⟨by decide +kernel, ⟨_, rfl, by decide +kernel⟩, by decide +kernel, by decide +kernel, by decide, by decide +kernel, by decide +kernel, by decide +kernel, by decide +kernel, rfl, by decide +kernel, rfl, rfl, fun _ _ _ _ _ _ _ us hl => match us, hl with | [_], _ => rfl, (fun _ h => nomatch h)⟩
theorem xok_Ended : XDok x_Ended := ⟨by decide +kernel, ⟨_, rfl, by decide +kernel⟩, by decide +kernel, by decide +kernel, by decide, by decide +kernel, by decide +kernel, by decide +kernel, by decide +kernel, rfl, by decide +kernel, rfl, rfl, fun _ _ _ _ _ _ _ us hl => match us, hl with | [_], _ => rfl, (fun _ h => nomatch h)⟩
theorem xok_NameTaken : XDok x_NameTaken := ⟨by decide +kernel, ⟨_, rfl, by decide +kernel⟩, by decide +kernel, by decide +kernel, by decide, by decide +kernel, by decide +kernel, by decide +kernel, by decide +kernel, rfl, by decide +kernel, rfl, rfl, fun _ _ _ _ _ _ _ us hl => match us, hl with | [_, _], _ => rfl, List.forall_mem_cons.mpr ⟨⟨rfl, fun _ _ _ _ _ _ _ _ ws hl => match ws, hl with | [_], _ => rfl⟩, (fun _ h => nomatch h)⟩⟩
theorem xok_UnknownCommand : XDok x_UnknownCommand := ⟨by decide +kernel, ⟨_, rfl, by decide +kernel⟩, by decide +kernel, by decide +kernel, by decide, by decide +kernel, by decide +kernel, by decide +kernel, by decide +kernel, rfl, by decide +kernel, rfl, rfl, fun _ _ _ _ _ _ _ us hl => match us, hl with | [_], _ => rfl, (fun _ h => nomatch h)⟩
theorem xok_TooFew : XDok x_TooFew := ⟨by decide +kernel, ⟨_, rfl, by decide +kernel⟩, by decide +kernel, by decide +kernel, by decide, by decide +kernel, by decide +kernel, by decide +kernel, by decide +kernel, rfl, by decide +kernel, rfl, rfl, fun _ _ _ _ _ _ _ us hl => match us, hl with | [_, _], _ => rfl, List.forall_mem_cons.mpr ⟨⟨rfl, fun _ _ _ _ _ _ _ _ ws hl => match ws, hl with | [_], _ => rfl⟩, (fun _ h => nomatch h)⟩⟩
theorem xok_Unplayed : XDok x_Unplayed := ⟨by decide +kernel, ⟨_, rfl, by decide +kernel⟩, by decide +kernel, by decide +kernel, by decide, by decide +kernel, by decide +kernel, by decide +kernel, by decide +kernel, rfl, by decide +kernel, rfl, rfl, fun _ _ _ _ _ _ _ us hl => match us, hl with | [_, _], _ => rfl, List.forall_mem_cons.mpr ⟨⟨rfl, fun _ _ _ _ _ _ _ _ ws hl => match ws, hl with | [_], _ => rfl⟩, (fun _ h => nomatch h)⟩⟩
theorem xok_Barred : XDok x_Barred := ⟨by decide +kernel, ⟨_, rfl, by decide +kernel⟩, by decide +kernel, by decide +kernel, by decide, by decide +kernel, by decide +kernel, by decide +kernel, by decide +kernel, rfl, by decide +kernel, rfl, rfl, fun _ _ _ _ _ _ _ us hl => match us, hl with | [_, _], _ => rfl, List.forall_mem_cons.mpr ⟨⟨rfl, fun _ _ _ _ _ _ _ _ ws hl => match ws, hl with | [_], _ => rfl⟩, (fun _ h => nomatch h)⟩⟩
theorem xok_InvalidText : XDok x_InvalidText := ⟨by decide +kernel, ⟨_, rfl, by decide +kernel⟩, by decide +kernel, by decide +kernel, by decide, by decide +kernel, by decide +kernel, by decide +kernel, by decide +kernel, rfl, by decide +kernel, rfl, rfl, fun _ _ _ _ _ _ _ us hl => match us, hl with | [_, _, _], _ => rfl, List.forall_mem_cons.mpr ⟨⟨rfl, fun _ _ _ _ _ _ _ _ ws hl => match ws, hl with | [_, _], _ => rfl⟩, (fun _ h => nomatch h)⟩⟩
theorem xok_InvalidRow : XDok x_InvalidRow := ⟨by decide +kernel, ⟨_, rfl, by decide +kernel⟩, by decide +kernel, by decide +kernel, by decide, by decide +kernel, by decide +kernel, by decide +kernel, by decide +kernel, rfl, by decide +kernel, rfl, rfl, fun _ _ _ _ _ _ _ us hl => match us, hl with | [_, _], _ => rfl, List.forall_mem_cons.mpr ⟨⟨rfl, fun _ _ _ _ _ _ _ _ ws hl => match ws, hl with | [_], _ => rfl⟩, (fun _ h => nomatch h)⟩⟩
theorem xok_InvalidPages : XDok x_InvalidPages := ⟨by decide +kernel, ⟨_, rfl, by decide +kernel⟩, by decide +kernel, by decide +kernel, by decide, by decide +kernel, by decide +kernel, by decide +kernel, by decide +kernel, rfl, by decide +kernel, rfl, rfl, fun _ _ _ _ _ _ _ us hl => match us, hl with | [_, _], _ => rfl, List.forall_mem_cons.mpr ⟨⟨rfl, fun _ _ _ _ _ _ _ _ ws hl => match ws, hl with | [_], _ => rfl⟩, (fun _ h => nomatch h)⟩⟩
theorem xok_InvalidLoss : XDok x_InvalidLoss := ⟨by decide +kernel, ⟨_, rfl, by decide +kernel⟩, by decide +kernel, by decide +kernel, by decide, by decide +kernel, by decide +kernel, by decide +kernel, by decide +kernel, rfl, by decide +kernel, rfl, rfl, fun _ _ _ _ _ _ _ us hl => match us, hl with | [_, _], _ => rfl, List.forall_mem_cons.mpr ⟨⟨rfl, fun _ _ _ _ _ _ _ _ ws hl => match ws, hl with | [_], _ => rfl⟩, (fun _ h => nomatch h)⟩⟩
theorem xok_InvalidView : XDok x_InvalidView := ⟨by decide +kernel, ⟨_, rfl, by decide +kernel⟩, by decide +kernel, by decide +kernel, by decide, by decide +kernel, by decide +kernel, by decide +kernel, by decide +kernel, rfl, by decide +kernel, rfl, rfl, fun _ _ _ _ _ _ _ us hl => match us, hl with | [_, _], _ => rfl, List.forall_mem_cons.mpr ⟨⟨rfl, fun _ _ _ _ _ _ _ _ ws hl => match ws, hl with | [_], _ => rfl⟩, (fun _ h => nomatch h)⟩⟩
theorem xok_InvalidValue : XDok x_InvalidValue := ⟨by decide +kernel, ⟨_, rfl, by decide +kernel⟩, by decide +kernel, by decide +kernel, by decide, by decide +kernel, by decide +kernel, by decide +kernel, by decide +kernel, rfl, by decide +kernel, rfl, rfl, fun _ _ _ _ _ _ _ us hl => match us, hl with | [_, _], _ => rfl, List.forall_mem_cons.mpr ⟨⟨rfl, fun _ _ _ _ _ _ _ _ ws hl => match ws, hl with | [_], _ => rfl⟩, (fun _ h => nomatch h)⟩⟩
theorem xok_InvalidKey : XDok x_InvalidKey := ⟨by decide +kernel, ⟨_, rfl, by decide +kernel⟩, by decide +kernel, by decide +kernel, by decide, by decide +kernel, by decide +kernel, by decide +kernel, by decide +kernel, rfl, by decide +kernel, rfl, rfl, fun _ _ _ _ _ _ _ us hl => match us, hl with | [_, _], _ => rfl, List.forall_mem_cons.mpr ⟨⟨rfl, fun _ _ _ _ _ _ _ _ ws hl => match ws, hl with | [_], _ => rfl⟩, (fun _ h => nomatch h)⟩⟩
theorem xok : ∀ d ∈ lw.xt, XDok d := List.forall_mem_cons.mpr ⟨xok_InvalidKey, List.forall_mem_cons.mpr ⟨xok_InvalidValue, List.forall_mem_cons.mpr ⟨xok_InvalidView, List.forall_mem_cons.mpr ⟨xok_InvalidLoss, List.forall_mem_cons.mpr ⟨xok_InvalidPages, List.forall_mem_cons.mpr ⟨xok_InvalidRow, List.forall_mem_cons.mpr ⟨xok_InvalidText, List.forall_mem_cons.mpr ⟨xok_Barred, List.forall_mem_cons.mpr ⟨xok_Unplayed, List.forall_mem_cons.mpr ⟨xok_TooFew, List.forall_mem_cons.mpr ⟨xok_UnknownCommand, List.forall_mem_cons.mpr ⟨xok_NameTaken, List.forall_mem_cons.mpr ⟨xok_Ended, List.forall_mem_cons.mpr ⟨xok_Cancelled, List.forall_mem_cons.mpr ⟨xok_NotOuter, List.forall_mem_cons.mpr ⟨xok_Strayed, List.forall_mem_cons.mpr ⟨xok_Busy, List.forall_mem_cons.mpr ⟨xok_Blocked, List.forall_mem_cons.mpr ⟨xok_Taken, List.forall_mem_cons.mpr ⟨xok_Unsettled, List.forall_mem_cons.mpr ⟨xok_NoKey, List.forall_mem_cons.mpr ⟨xok_NoName, List.forall_mem_cons.mpr ⟨xok_NoPage, List.forall_mem_cons.mpr ⟨xok_NoRow, List.forall_mem_cons.mpr ⟨xok_NoSlot, List.forall_mem_cons.mpr ⟨xok_NotDead, List.forall_mem_cons.mpr ⟨xok_NotPrepared, List.forall_mem_cons.mpr ⟨xok_NotSpan, List.forall_mem_cons.mpr ⟨xok_NotCleaning, List.forall_mem_cons.mpr ⟨xok_NoNumber, List.forall_mem_cons.mpr ⟨xok_NoTransaction, List.forall_mem_cons.mpr ⟨xok_Full, List.forall_mem_cons.mpr ⟨xok_TooDeep, List.forall_mem_cons.mpr ⟨xok_TooLong, (fun _ h => nomatch h)⟩⟩⟩⟩⟩⟩⟩⟩⟩⟩⟩⟩⟩⟩⟩⟩⟩⟩⟩⟩⟩⟩⟩⟩⟩⟩⟩⟩⟩⟩⟩⟩⟩⟩
theorem chk (K : PySem.W.Frag) (k : Nat) (Φ : Str → List D → AH → R D) : ∀ d ∈ lw.T, chkB (lw.mdl K Φ k) d.N d.body (defScope d.st) (defBody d.st) = true := List.forall_mem_cons.mpr ⟨ck_Lpen K k Φ, List.forall_mem_cons.mpr ⟨ck_Ldraw K k Φ, List.forall_mem_cons.mpr ⟨ck_Lpick K k Φ, List.forall_mem_cons.mpr ⟨ck_Lodd K k Φ, List.forall_mem_cons.mpr ⟨ck_Lmade K k Φ, List.forall_mem_cons.mpr ⟨ck_Lmarks K k Φ, List.forall_mem_cons.mpr ⟨ck_Lbases K k Φ, List.forall_mem_cons.mpr ⟨ck_Lkept K k Φ, List.forall_mem_cons.mpr ⟨ck_Lkept_by_name K k Φ, List.forall_mem_cons.mpr ⟨ck_law K k Φ, (fun _ h => nomatch h)⟩⟩⟩⟩⟩⟩⟩⟩⟩⟩
end Tb

set_option Elab.async false
set_option linter.all false
set_option autoImplicit false
set_option maxRecDepth 100000
set_option maxHeartbeats 4000000
namespace Hd
open PySem PySem.Spec L2 Mp
def nm0 : List PySem.Str := ["HoldError", "TurnError", "AbsentError", "SizeError", "InvalidKey", "InvalidValue", "InvalidView", "InvalidLoss", "InvalidPages", "InvalidRow", "InvalidText", "Barred", "Unplayed", "TooFew", "UnknownCommand", "NameTaken", "Ended", "Cancelled", "NotOuter", "Strayed", "Busy", "Blocked", "Taken", "Unsettled", "NoKey"]
def nm1 : List PySem.Str := ["NoName", "NoPage", "NoRow", "NoSlot", "NotDead", "NotPrepared", "NotSpan", "NotCleaning", "NoNumber", "NoTransaction", "Full", "TooDeep", "TooLong", "_law_pen", "_law_draw", "_law_pick", "_law_odd", "_law_made", "_law_marks", "_law_bases", "_law_kept", "_law_kept_by_name"]
def names : List PySem.Str := nm0 ++ nm1
abbrev R0 : PySem.W.OpenRow := PySem.W.OpenLaw.row PySem.Challenge.rw_whoheld_k01_errors
theorem run1F (w : World) : Run1 R0 (PySem.W.view R0.prog [49]) 20000 names (w.withFollow "special-get-raises" false) := by
  intro os
  kernel_rfl
theorem run2F (w : World) : Tb.lw.Run2 R0 20000 (w.withFollow "special-get-raises" false) 5 := by
  intro os
  kernel_rfl
theorem run3F (w : World) : Tb.lw.Run3 R0 20000 (w.withFollow "special-get-raises" false) 5 := by
  intro os
  kernel_rfl
theorem runF (w : World) : HandSHeadRun.RunEq R0 (PySem.W.view R0.prog [49]) (Tb.lw.hook 5) (Tb.lw.ob 5) 20000 names (w.withFollow "special-get-raises" false) := Tb.lw.run3 (run1F w) (run2F w) (run3F w)
theorem run1T (w : World) : Run1 R0 (PySem.W.view R0.prog [49]) 20000 names (w.withFollow "special-get-raises" true) := by
  intro os
  kernel_rfl
theorem run2T (w : World) : Tb.lw.Run2 R0 20000 (w.withFollow "special-get-raises" true) 5 := by
  intro os
  kernel_rfl
theorem run3T (w : World) : Tb.lw.Run3 R0 20000 (w.withFollow "special-get-raises" true) 5 := by
  intro os
  kernel_rfl
theorem runT (w : World) : HandSHeadRun.RunEq R0 (PySem.W.view R0.prog [49]) (Tb.lw.hook 5) (Tb.lw.ob 5) 20000 names (w.withFollow "special-get-raises" true) := Tb.lw.run3 (run1T w) (run2T w) (run3T w)
theorem run (w : World) : HandSHeadRun.RunEq R0 (PySem.W.view R0.prog [49]) (Tb.lw.hook 5) (Tb.lw.ob 5) 20000 names w := PySem.W.byRow2 "special-get-raises" (P := fun w => HandSHeadRun.RunEq R0 (PySem.W.view R0.prog [49]) (Tb.lw.hook 5) (Tb.lw.ob 5) 20000 names w) runF runT w
end Hd

set_option Elab.async false
set_option linter.all false
set_option autoImplicit false
set_option maxRecDepth 100000
set_option maxHeartbeats 4000000
namespace Tb
open PySem PySem.Spec L2 Mp
theorem draws : Draws lw := .ofA ⟨d_Ldraw, _, _, _, _, _, _, _, _, _, _, fd_Ldraw, rfl, rfl, rfl, by constructor <;> decide⟩
theorem hasPick : HasPick lw := ⟨d_Lpick, fd_Lpick, rfl, rfl, rfl⟩
section
variable {K : PySem.W.Frag} {k : Nat} {c : List Int} {n : Int} {t h : AH} {d : D}
def odd1 : List D := [.non, .bl true, .bl false, .int 0, .int 1, .int (-1), .int 7, .int 8, .int 999999, .int 1000000, .int (10 ^ 59), .int (0 - 10 ^ 59), .str "", .str "a", .str "abcdefgh"]
def odd2 : List D := [.str "abcdefghi", .str "A", .str "a1", .str "1", .str "a b", .str "b\n", .str "-", .tup [], .tup [.int 0, .int 0], .tup [.int 7, .int 7], .tup [.int 0, .int 8], .tup [.int (-1), .int 0], .lst [.int 0, .int 0]]
def odd3 : List D := [.tup [.bl true, .int 0], .tup [.int 0, .int 0, .int 0], .lst [], .dic [] [], .tup [.str "0", .int 0], .tup [.int 0], .lst [.non], .dic [.inr "a"] [.int 1], .tup [.str "fall"], .str "fall", .lst [.tup [.str "fall"]]]
def oddL : List D := odd1 ++ odd2 ++ odd3 ++ [.tup [.str "sweep", .non]]
theorem oddL_tm : oddL.all (tmB (10 ^ 60) 2 500) = true := by decide +kernel
theorem Lodd0 {M : Mdl} {a0 a1 : Option D} : ex M s_Lodd_0 [a0, a1] h = .nx [a0, some (.lst odd1)] h := by kernel_rfl
theorem Lodd1 {M : Mdl} {a0 : Option D} : ex M s_Lodd_1 [a0, some (.lst odd1)] h = .nx [a0, some (.lst (odd1 ++ odd2))] h := by kernel_rfl
theorem Lodd2 {M : Mdl} {a0 : Option D} : ex M s_Lodd_2 [a0, some (.lst (odd1 ++ odd2))] h = .nx [a0, some (.lst (odd1 ++ odd2 ++ odd3))] h := by kernel_rfl
theorem odd_d (p : Pen c n t h) (hn : n < 800000) : ∃ x h', lw.phi K (k + 3) "_law_odd" [.ref 0] h = .ok x h' ∧ x ∈ oddL ∧ Pen c (n + 1) t h' := by
  obtain ⟨x, h', e, mx, p'⟩ := pick1 (K := K) (k := k) draws hasPick (xs := oddL) p (by omega) (by decide) (by decide)
  refine ⟨x, h', ?_, mx, p'⟩
  rw [at_Lodd]
  have g : bop false .Add (.lst (odd1 ++ odd2 ++ odd3)) (.lst [.tup [.str "sweep", .non]]) h = .ok (.lst oddL) h := addL' (by decide)
  simp only [b_Lodd, ex_seq, Lodd0, Lodd1, Lodd2, RS.andThen]
  simp only [s_Lodd_3, ex, ev, evs, evAnd, evOr, R.bind, R.toS, RS.andThen, RS.toR, List.getElem?_cons_zero, List.getElem?_cons_succ, List.set_cons_zero, List.set_cons_succ, truR_bl, not_bl, truD_bl, newF, okb0, okb1, okb2, okb3, okb4, okb5, okb6, okb7, okb8, okb9, okb10, okb11, okb12, okb13, okb14, okb15, okb16, okb17, g, e]
theorem odd_tm (p : Pen c n t h) (hn : n < 800000) : ∃ x h', (lw.m K (k + 3)).Φ "_law_odd" [.ref 0] h = .ok x h' ∧ Tm (10 ^ 60) 2 500 x ∧ Pen c (n + 1) t h' := by
  obtain ⟨x, h', e, mx, p'⟩ := odd_d (K := K) (k := k) p hn
  exact ⟨x, h', e, Tm.all oddL_tm x mx, p'⟩

def madeL (a b : D) : List D := [.exc "InvalidKey" ["value"] [a], .exc "InvalidValue" ["value"] [a], .exc "InvalidView" ["value"] [a], .exc "InvalidLoss" ["value"] [a], .exc "InvalidPages" ["value"] [a], .exc "InvalidRow" ["index"] [a], .exc "InvalidText" ["word", "line"] [b, a], .exc "Barred" ["bar"] [a], .exc "Unplayed" ["index"] [a], .exc "TooFew" ["least"] [a], .exc "UnknownCommand" [] [], .exc "NameTaken" ["name"] [a], .exc "Ended" [] [], .exc "Cancelled" [] [], .exc "NotOuter" [] [], .exc "Strayed" ["index"] [a], .exc "Busy" ["number"] [a], .exc "Blocked" ["number"] [a], .exc "Taken" ["key"] [a], .exc "Unsettled" ["number"] [a], .exc "NoKey" ["key"] [a], .exc "NoName" ["name"] [a], .exc "NoPage" ["page"] [a], .exc "NoRow" ["index"] [a], .exc "NoSlot" ["slot"] [a], .exc "NotDead" ["slot"] [a], .exc "NotPrepared" ["number"] [a], .exc "NotSpan" ["row"] [a], .exc "NotCleaning" ["row"] [a], .exc "NoNumber" ["number"] [a], .exc "NoTransaction" ["number"] [a], .exc "Full" [] [], .exc "TooDeep" ["limit"] [a], .exc "TooLong" ["limit"] [a]]
theorem made_k {a b : D} : lw.phi K (k + 1) "_law_made" [a, b] h = .ok (.lst (madeL a b)) h := by
  rw [at_Lmade]
  kernel_rfl
def fam (b : Nat) : D := .lst [.bl (b == 0), .bl (b == 1), .bl (b == 2), .bl (b == 3)]
theorem loop34 {a b s p t : D} {a3 a4 a7 a8 : Option D} : ex (lw.m K 4) s_law_6 [some s, some p, some t, some (.lst (madeL a b)), a4, some a, some b, a7, a8] h = .nx [some s, some p, some t, some (.lst (madeL a b)), some (.int 33), some a, some b, some (fam 3), a8] h := by kernel_rfl
end
end Tb

set_option Elab.async false
set_option linter.all false
set_option autoImplicit false
set_option maxRecDepth 100000
set_option maxHeartbeats 4000000
namespace Tb
open PySem PySem.Spec L2 Mp
section
variable {K : PySem.W.Frag} {k : Nat} {c : List Int} {n : Int} {h t : AH} {a b : D}
def mulE : Mp.E := (.bin false .Mult (.lst false (.cons (.v 0) .nil)) (.k (.int 29)))
def fwE : Mp.E := (.fld (.new "InvalidText" (.cons (.v 0) (.cons (.v 1) .nil))) "word")
def fw2 : Mp.E := (.fld (.v 2) "word")
def r29 (a : D) : D := .lst (List.replicate 29 a)
def lastK : Mp.S := (.ret (.andL (.cons (.cmp .Eq (.bi .repr (.cons (.v 2) .nil)) (.bi .repr (.cons mulE .nil))) (.cons (.cmp .Eq (.bi .repr (.cons fwE .nil)) (.bi .repr (.cons (.v 1) .nil))) .nil))))
def lastN : Mp.S := (.ret (.andL (.cons (.cmp .Eq (.bi .repr (.cons (.v 3) .nil)) (.bi .repr (.cons mulE .nil))) (.cons (.cmp .Eq (.bi .repr (.cons fw2 .nil)) (.bi .repr (.cons (.v 1) .nil))) .nil))))
theorem preK (q : Mp.S) : ex (lw.m K k) (.seq s_Lkept_0 (.seq s_Lkept_1 (.seq s_Lkept_2 (.seq s_Lkept_3 (.seq s_Lkept_4 (.seq s_Lkept_5 (.seq s_Lkept_6 q))))))) [some a, some b, none] h = ex (lw.m K k) q [some a, some b, some (r29 a)] h := by kernel_rfl
theorem preN (q : Mp.S) : ex (lw.m K k) (.seq s_Lkept_by_name_0 (.seq s_Lkept_by_name_1 (.seq s_Lkept_by_name_2 (.seq s_Lkept_by_name_3 (.seq s_Lkept_by_name_4 (.seq s_Lkept_by_name_5 (.seq s_Lkept_by_name_6 (.seq s_Lkept_by_name_7 (.seq s_Lkept_by_name_8 q))))))))) [some a, some b, none, none] h = ex (lw.m K k) q [some a, some b, some (.exc "InvalidText" ["word", "line"] [b, a]), some (r29 a)] h := by kernel_rfl
theorem mulE_ok {w1 w2 : Option D} : ev (lw.m K k) mulE [some a, w1, w2] h = .ok (r29 a) h := by kernel_rfl
theorem mulE_ok4 {w1 w2 w3 : Option D} : ev (lw.m K k) mulE [some a, w1, w2, w3] h = .ok (r29 a) h := by kernel_rfl
theorem fwE_ok {w2 : Option D} : ev (lw.m K k) fwE [some a, some b, w2] h = .ok b h := by kernel_rfl
theorem fw2_ok {w0 w1 w3 : Option D} : ev (lw.m K k) fw2 [w0, w1, some (.exc "InvalidText" ["word", "line"] [b, a]), w3] h = .ok b h := by kernel_rfl
theorem r29_tg (ta : Tm (10 ^ 60) 2 500 a) : Tg1 20000 (r29 a) := by
  have z := (Tms.of (xs := List.replicate 29 a) (b := 10 ^ 60) (m := 2) (w := 500) fun x hx => by rw [List.eq_of_mem_replicate hx]; exact ta).lst
  rw [List.length_replicate] at z
  exact (z.tg (by decide) (by omega)).mono (by omega)
theorem kept_k (ta : Tm (10 ^ 60) 2 500 a) (tb : Tm (10 ^ 60) 2 500 b) : lw.phi K (k + 1) "_law_kept" [a, b] h = .ok (.bl true) h := by
  have e1 := (r29_tg ta).repr (by omega) h
  have e2 := (tb.tg (by decide) (by omega)).repr (by omega) h
  rw [at_Lkept]
  show (ex (lw.m K k) (.seq s_Lkept_0 (.seq s_Lkept_1 (.seq s_Lkept_2 (.seq s_Lkept_3 (.seq s_Lkept_4 (.seq s_Lkept_5 (.seq s_Lkept_6 (.seq lastK .nil)))))))) [some a, some b, none] h).toR = _
  rw [preK]
  simp only [lastK, ex, ev, evs, evAnd, evOr, R.bind, R.toS, RS.andThen, RS.toR, List.getElem?_cons_zero, List.getElem?_cons_succ, List.set_cons_zero, List.set_cons_succ, truR_bl, not_bl, truD_bl, newF, okb0, okb1, okb2, okb3, okb4, okb5, okb6, okb7, okb8, okb9, okb10, okb11, okb12, okb13, okb14, okb15, okb16, okb17, e1, mulE_ok, fwE_ok, e2, eq_s, decide_true]
theorem keptn_k (ta : Tm (10 ^ 60) 2 500 a) (tb : Tm (10 ^ 60) 2 500 b) : lw.phi K (k + 1) "_law_kept_by_name" [a, b] h = .ok (.bl true) h := by
  have e1 := (r29_tg ta).repr (by omega) h
  have e2 := (tb.tg (by decide) (by omega)).repr (by omega) h
  rw [at_Lkept_by_name]
  show (ex (lw.m K k) (.seq s_Lkept_by_name_0 (.seq s_Lkept_by_name_1 (.seq s_Lkept_by_name_2 (.seq s_Lkept_by_name_3 (.seq s_Lkept_by_name_4 (.seq s_Lkept_by_name_5 (.seq s_Lkept_by_name_6 (.seq s_Lkept_by_name_7 (.seq s_Lkept_by_name_8 (.seq lastN .nil)))))))))) [some a, some b, none, none] h).toR = _
  rw [preN]
  simp only [lastN, ex, ev, evs, evAnd, evOr, R.bind, R.toS, RS.andThen, RS.toR, List.getElem?_cons_zero, List.getElem?_cons_succ, List.set_cons_zero, List.set_cons_succ, truR_bl, not_bl, truD_bl, newF, okb0, okb1, okb2, okb3, okb4, okb5, okb6, okb7, okb8, okb9, okb10, okb11, okb12, okb13, okb14, okb15, okb16, okb17, e1, mulE_ok4, fw2_ok, e2, eq_s, decide_true]
def I1 (c : List Int) (s : D) (i : Nat) (ρ : Ev) (h : AH) : Prop := (∃ a2 a3 a4 a5 a6 a7 a8 : Option D, ρ = [some s, some (.ref 0), a2, a3, a4, a5, a6, a7, a8]) ∧ Pen c (2 * (i : Int)) [] h
theorem turn {s x : D} {i : Nat} {ρ : Ev} (I : I1 c s i ρ h) (hi : i < 100) : ∃ ρ' h', (match (Tg.one 2).bind x ρ with
    | some ρ' => ex (lw.m K 4) f_law_1 ρ' h
    | none => .bad) = .nx ρ' h' ∧ I1 c s (i + 1) ρ' h' := by
  obtain ⟨⟨a2, a3, a4, a5, a6, a7, a8, rfl⟩, p⟩ := I
  obtain ⟨o1, h1, e1, t1, p1⟩ := odd_tm (K := K) (k := 1) p (by omega)
  obtain ⟨o2, h2, e2, t2, p2⟩ := odd_tm (K := K) (k := 1) p1 (by omega)
  have e3 : (lw.m K 4).Φ "_law_made" [o1, o2] h2 = _ := made_k (K := K) (k := 3)
  have e4 : (lw.m K 4).Φ "_law_kept" [o1, o2] h2 = _ := kept_k (K := K) (k := 3) t1 t2
  have e5 : (lw.m K 4).Φ "_law_kept_by_name" [o1, o2] h2 = _ := keptn_k (K := K) (k := 3) t1 t2
  refine ⟨[some s, some (.ref 0), some x, some (.lst (madeL o1 o2)), some (.int 33), some o1, some o2, some (fam 3), a8], h2, ?_, ⟨_, _, _, _, _, _, _, rfl⟩, p2.mono (by omega)⟩
  have l := loop34 (K := K) (h := h2) (a := o1) (b := o2) (s := s) (p := .ref 0) (t := x) (a3 := a3) (a4 := a4) (a7 := a7) (a8 := a8)
  show ex (lw.m K 4) (.seq s_law_1 (.seq s_law_2 (.seq s_law_6 (.seq s_law_7 .nil)))) [some s, some (.ref 0), some x, a3, a4, a5, a6, a7, a8] h = _
  have f1 : ex (lw.m K 4) s_law_1 [some s, some (.ref 0), some x, a3, a4, a5, a6, a7, a8] h = .nx [some s, some (.ref 0), some x, a3, a4, some o1, some o2, a7, a8] h2 := by
    simp only [s_law_1, ex, ev, evs, evAnd, evOr, R.bind, R.toS, RS.andThen, RS.toR, List.getElem?_cons_zero, List.getElem?_cons_succ, List.set_cons_zero, List.set_cons_succ, truR_bl, not_bl, truD_bl, newF, okb0, okb1, okb2, okb3, okb4, okb5, okb6, okb7, okb8, okb9, okb10, okb11, okb12, okb13, okb14, okb15, okb16, okb17, e1, e2]
  have f2 : ex (lw.m K 4) s_law_2 [some s, some (.ref 0), some x, a3, a4, some o1, some o2, a7, a8] h2 = .nx [some s, some (.ref 0), some x, some (.lst (madeL o1 o2)), a4, some o1, some o2, a7, a8] h2 := by
    simp only [s_law_2, ex, ev, evs, evAnd, evOr, R.bind, R.toS, RS.andThen, RS.toR, List.getElem?_cons_zero, List.getElem?_cons_succ, List.set_cons_zero, List.set_cons_succ, truR_bl, not_bl, truD_bl, newF, okb0, okb1, okb2, okb3, okb4, okb5, okb6, okb7, okb8, okb9, okb10, okb11, okb12, okb13, okb14, okb15, okb16, okb17, e3]
  simp only [ex_seq, f1, f2, l, RS.andThen]
  simp only [s_law_7, ex, ev, evs, evAnd, evOr, R.bind, R.toS, RS.andThen, RS.toR, List.getElem?_cons_zero, List.getElem?_cons_succ, List.set_cons_zero, List.set_cons_succ, truR_bl, not_bl, truD_bl, newF, okb0, okb1, okb2, okb3, okb4, okb5, okb6, okb7, okb8, okb9, okb10, okb11, okb12, okb13, okb14, okb15, okb16, okb17, e4, e5, Bool.not_true]
def depth : Nat := 5
theorem law_true (K : PySem.W.Frag) (ns : List Int) (_ : ns.length ≤ 63) (_ : ∀ z ∈ ns, Builtin.Int.intBits z ≤ 1048576) : ∃ h', lw.phi K depth d_law.name [.scr (ns.map .int)] [] = .ok (.bl true) h' := by
  show ∃ h', lw.phi K (4 + 1) "law" [.scr (ns.map .int)] [] = .ok (.bl true) h'
  obtain ⟨c, e0⟩ := penB_ok (M := lw.m K 3) ns
  have e0 : (lw.m K 4).Φ "_law_pen" [.scr (ns.map .int)] [] = .ok (.ref 0) [penO c 0 0] := by
    show lw.phi K (3 + 1) "_law_pen" [.scr (ns.map .int)] [] = _
    rw [at_Lpen]
    show (ex (lw.m K 3) penB [some (.scr (ns.map .int))] []).toR = _
    rw [e0]
    rfl
  have I0 : I1 c (.scr (ns.map .int)) 0 [some (.scr (ns.map .int)), some (.ref 0), none, none, none, none, none, none, none] [penO c 0 0] := ⟨⟨_, _, _, _, _, _, _, rfl⟩, pen0⟩
  have l4 : (rngD 0 4).length = 4 := by decide
  obtain ⟨ρ3, h3, e3, I3⟩ := forLoop_cnt (f := fun x ρ h => match (Tg.one 2).bind x ρ with
      | some ρ' => ex (lw.m K 4) f_law_1 ρ' h
      | none => .bad) (I := fun i ρ h => I1 c (.scr (ns.map .int)) i ρ h) (rngD 0 4) 0 _ [penO c 0 0] (fun z hz j ρ h hj hI => by
    rw [l4] at hj
    exact turn (K := K) (x := z) hI (by omega)) I0
  have f1 : ex (lw.m K 4) s_law_8 [some (.scr (ns.map .int)), some (.ref 0), none, none, none, none, none, none, none] [penO c 0 0] = .nx ρ3 h3 :=
    (for_ok (xs := rngD 0 4) (ck := fun _ => true) (h1 := [penO c 0 0]) (evI_rng (by simp only [ex, ev, evs, evAnd, evOr, R.bind, R.toS, RS.andThen, RS.toR, List.getElem?_cons_zero, List.getElem?_cons_succ, List.set_cons_zero, List.set_cons_succ, truR_bl, not_bl, truD_bl, newF, okb0, okb1, okb2, okb3, okb4, okb5, okb6, okb7, okb8, okb9, okb10, okb11, okb12, okb13, okb14, okb15, okb16, okb17]) (rng1_ok (by omega)))).trans e3
  refine ⟨h3, ?_⟩
  rw [at_law]
  have f0 : ex (lw.m K 4) s_law_0 [some (.scr (ns.map .int)), none, none, none, none, none, none, none, none] [] = .nx [some (.scr (ns.map .int)), some (.ref 0), none, none, none, none, none, none, none] [penO c 0 0] := by
    simp only [s_law_0, ex, ev, evs, evAnd, evOr, R.bind, R.toS, RS.andThen, RS.toR, List.getElem?_cons_zero, List.getElem?_cons_succ, List.set_cons_zero, List.set_cons_succ, truR_bl, not_bl, truD_bl, newF, okb0, okb1, okb2, okb3, okb4, okb5, okb6, okb7, okb8, okb9, okb10, okb11, okb12, okb13, okb14, okb15, okb16, okb17, e0]
  simp only [b_law, ex_seq, f0, RS.andThen, f1]
  simp only [s_law_9, ex, ev, evs, evAnd, evOr, R.bind, R.toS, RS.andThen, RS.toR, List.getElem?_cons_zero, List.getElem?_cons_succ, List.set_cons_zero, List.set_cons_succ, truR_bl, not_bl, truD_bl, newF, okb0, okb1, okb2, okb3, okb4, okb5, okb6, okb7, okb8, okb9, okb10, okb11, okb12, okb13, okb14, okb15, okb16, okb17]
end
end Tb

open PySem PySem.W PySem.Calls PyProof.Rows
theorem PySem.Challenge.cw_whoheld_k01_errors_holds : PySem.Challenge.rw_whoheld_k01_errors.Holds := by
  w_on; o_law
  refine HandSHeadRun.head_any (r := OpenLaw.row PySem.Challenge.rw_whoheld_k01_errors) (q := view (OpenLaw.row PySem.Challenge.rw_whoheld_k01_errors).prog [49]) (H := Tb.lw.hook 5) (ob := Tb.lw.ob 5) (M := 20000) (loose := Hd.names) (d := HandSHeadRun.topDef (OpenLaw.row PySem.Challenge.rw_whoheld_k01_errors).prog 49) (kwd := []) (Tb.lw.ob_eq 5)
    (by kernel_rfl) (fun s => by kernel_rfl) Hd.run (by kernel_rfl) (by kernel_rfl) (by kernel_rfl) (by rfl) (by first | assumption | decide +kernel) (by decide +kernel) ⟨rfl, rfl, rfl, rfl, rfl, by decide +kernel⟩ ?hw ?hc
  case hw => w_witness2
  case hc => exact Mp.Lw.walk (l := PySem.Challenge.rw_whoheld_k01_errors) Tb.lw 5 Tb.depth Tb.d_law rfl (by decide) (by kernel_rfl) rfl ⟨_, rfl⟩ ⟨rfl, by decide, by decide⟩ Tb.ok Tb.xok (.inr ⟨rfl, by decide +kernel⟩) Tb.chk Tb.law_true

