import PyProof.Rows.All
import Wide.All
import OpenK.AllK
import Wide.FinOn
import HandS.ForMost
import HandS.HeadHook4
import HandS.Flow
import HandS.Exc
import HandS.Defaults
import HandS.Ends
import HandS.HeadEnd
import HandS.EndBits
import HandS.IsInst
import HandS.Style
import HandS.Wide
import HandS.RaiseMore
import PyProof.ReprRoads
import HandS.WordsExc
import HandS.Iter
import PySem.Challenge.RW_pagemesh_k02_names_and_integers
import KE.KStateDown
import HandS.Head0
import HandS.Head1
import HandS.Head2
import HandS.HeadHook1
import HandS.HeadHook2
set_option Elab.async false
set_option linter.all false
set_option maxRecDepth 100000
/-! Sm0: the mirror's values, heap, results; what ties them to the layer's. -/
namespace PM
open PySem PySem.Spec L2
open PyProof.Rows hiding St

/-- a mirror's value: tuples by value, other objects by number -/
inductive W where
  | non | bl (b : Bool) | int (i : Int) | str (x : Str) | ty (n : String) | ref (i : Nat) | glo (x : Str) | tup (xs : List W)
deriving Inhabited

/-- a mirror's object: ro: a list that is only read -/
inductive Ob where
  | lst (xs : List W) | dct (kvs : List (Key × W)) | ins (C : Str) (fs : List (Str × W)) | ro (xs : List W) | rod (kvs : List (Key × W))
deriving Inhabited
abbrev MH := List Ob
abbrev MS := List (Option W)
/-- an exception: its class by name (own: of the text), the number of its own dict's object -/
inductive Xc where
  | own (x : Str) | ty (n : String)
structure Xn where
  c : Xc
  d : Option Nat
inductive R (α : Type) where
  | ok (a : α) (h : MH) | exc (x : Xn) (h : MH) | stuck
inductive RS where
  | nx (σ : MS) (h : MH) | rt (w : W) (h : MH) | bk (σ : MS) (h : MH) | ct (σ : MS) (h : MH) | exc (x : Xn) (σ : MS) (h : MH) | stuck
abbrev EM := MS → MH → R W
abbrev TM := MS → MH → R Bool
abbrev AM := MS → MH → R (List W)
abbrev SM := MS → MH → RS
abbrev FM := List W → MH → R W

def R.bind {α β : Type} (r : R α) (k : α → MH → R β) : R β :=
  match r with
  | .ok a h => k a h
  | .exc x h => .exc x h
  | .stuck => .stuck
@[simp] theorem R.bind_ok {α β : Type} (a : α) (h : MH) (k : α → MH → R β) : (R.ok a h).bind k = k a h := rfl
@[simp] theorem R.bind_exc {α β : Type} (x : Xn) (h : MH) (k : α → MH → R β) : (R.exc x h).bind k = .exc x h := rfl
@[simp] theorem R.bind_stuck {α β : Type} (k : α → MH → R β) : (R.stuck : R α).bind k = .stuck := rfl
/-- a value's result within a statement -/
def R.st {α : Type} (r : R α) (σ : MS) (k : α → MH → RS) : RS :=
  match r with
  | .ok a h => k a h
  | .exc x h => .exc x σ h
  | .stuck => .stuck
@[simp] theorem R.st_ok {α : Type} (a : α) (h : MH) (σ : MS) (k : α → MH → RS) : (R.ok a h).st σ k = k a h := rfl
@[simp] theorem R.st_exc {α : Type} (x : Xn) (h : MH) (σ : MS) (k : α → MH → RS) : (R.exc x h : R α).st σ k = .exc x σ h := rfl
@[simp] theorem R.st_stuck {α : Type} (σ : MS) (k : α → MH → RS) : (R.stuck : R α).st σ k = .stuck := rfl
def RS.seq (r : RS) (k : MS → MH → RS) : RS :=
  match r with
  | .nx σ h => k σ h
  | r => r
@[simp] theorem RS.seq_nx (σ : MS) (h : MH) (k : MS → MH → RS) : (RS.nx σ h).seq k = k σ h := rfl
@[simp] theorem RS.seq_rt (w : W) (h : MH) (k : MS → MH → RS) : (RS.rt w h).seq k = .rt w h := rfl
@[simp] theorem RS.seq_bk (σ : MS) (h : MH) (k : MS → MH → RS) : (RS.bk σ h).seq k = .bk σ h := rfl
@[simp] theorem RS.seq_ct (σ : MS) (h : MH) (k : MS → MH → RS) : (RS.ct σ h).seq k = .ct σ h := rfl
@[simp] theorem RS.seq_exc (x : Xn) (σ : MS) (h : MH) (k : MS → MH → RS) : (RS.exc x σ h).seq k = .exc x σ h := rfl
@[simp] theorem RS.seq_stuck (k : MS → MH → RS) : RS.stuck.seq k = .stuck := rfl

/-- where the mirror's objects lie -/
structure Bs where
  at_ : Nat → Addr
  n : Nat
  H : Hp

mutual
inductive Rl (K : PySem.W.Frag) (b : Bs) : W → V → Prop
  | non : Rl K b .non .non
  | bl (k : Bool) : Rl K b (.bl k) (.bl k)
  | int (i : Int) : Rl K b (.int i) (.int i)
  | str (x : Str) : Rl K b (.str x) (.str x)
  | ty (n : String) : Rl K b (.ty n) (.ty n)
  | ref (i : Nat) : i < b.n → Rl K b (.ref i) (.ref (b.at_ i))
  | glo (x : Str) : Rl K b (.glo x) (.ref (He.ga K x))
  | tup (a : Addr) (ws : List W) (vs : List V) : SqT K b.H a vs → Rls K b ws vs → Rl K b (.tup ws) (.ref a)
inductive Rls (K : PySem.W.Frag) (b : Bs) : List W → List V → Prop
  | nil : Rls K b [] []
  | cons {w : W} {v : V} {ws : List W} {vs : List V} : Rl K b w v → Rls K b ws vs → Rls K b (w :: ws) (v :: vs)
end
/-- more objects, the old ones at their places; tuples stay -/
structure Ext (K : PySem.W.Frag) (b c : Bs) : Prop where
  le : b.n ≤ c.n
  ix : ∀ i, i < b.n → c.at_ i = b.at_ i
  tp : ∀ a xs, SqT K b.H a xs → SqT K c.H a xs
theorem Ext.refl {K : PySem.W.Frag} {b : Bs} : Ext K b b := ⟨Nat.le_refl _, fun _ _ => rfl, fun _ _ h => h⟩
theorem Ext.trans {K : PySem.W.Frag} {a b c : Bs} (x : Ext K a b) (y : Ext K b c) : Ext K a c :=
  ⟨Nat.le_trans x.le y.le, fun i h => (y.ix i (Nat.lt_of_lt_of_le h x.le)).trans (x.ix i h), fun p xs h => y.tp p xs (x.tp p xs h)⟩
mutual
theorem Rl.ext {K : PySem.W.Frag} {b c : Bs} (x : Ext K b c) : ∀ {w : W} {v : V}, Rl K b w v → Rl K c w v
  | _, _, .non => .non
  | _, _, .bl k => .bl k
  | _, _, .int k => .int k
  | _, _, .str k => .str k
  | _, _, .ty k => .ty k
  | _, _, .ref i h => by
    rw [← x.ix i h]
    exact .ref i (Nat.lt_of_lt_of_le h x.le)
  | _, _, .glo y => .glo y
  | _, _, .tup a ws vs h r => .tup a ws vs (x.tp a vs h) (Rls.ext x r)
theorem Rls.ext {K : PySem.W.Frag} {b c : Bs} (x : Ext K b c) : ∀ {ws : List W} {vs : List V}, Rls K b ws vs → Rls K c ws vs
  | _, _, .nil => .nil
  | _, _, .cons h t => .cons (Rl.ext x h) (Rls.ext x t)
end
section
variable {K : PySem.W.Frag} {b c : Bs} {ws xs : List W} {vs ys : List V} {w : W} {v : V}
theorem Rls.length (r : Rls K b ws vs) : ws.length = vs.length := by
  induction ws generalizing vs with
  | nil => cases r; rfl
  | cons w ws ih => cases r with | cons _ t => simp [ih t]
theorem Rls.get (r : Rls K b ws vs) {i : Nat} (e : ws[i]? = some w) : ∃ v, vs[i]? = some v ∧ Rl K b w v := by
  induction ws generalizing vs i with
  | nil => simp at e
  | cons z ws ih =>
    cases r with
    | cons h t =>
      cases i with
      | zero => simp at e; subst e; exact ⟨_, rfl, h⟩
      | succ i => simpa using ih t (by simpa using e)
theorem Rls.getV (r : Rls K b ws vs) {i : Nat} (e : vs[i]? = some v) : ∃ w, ws[i]? = some w ∧ Rl K b w v := by
  induction vs generalizing ws i with
  | nil => simp at e
  | cons z vs ih =>
    cases r with
    | cons h t =>
      cases i with
      | zero => simp at e; subst e; exact ⟨_, rfl, h⟩
      | succ i => simpa using ih t (by simpa using e)
theorem Rls.append (r : Rls K b ws vs) (s : Rls K b xs ys) : Rls K b (ws ++ xs) (vs ++ ys) := by
  induction ws generalizing vs with
  | nil => cases r; exact s
  | cons w ws ih => cases r with | cons h t => exact .cons h (ih t)
theorem Rls.take (n : Nat) (r : Rls K b ws vs) : Rls K b (ws.take n) (vs.take n) := by
  induction ws generalizing vs n with
  | nil => cases r; simp; exact .nil
  | cons w ws ih => cases r with | cons h t => cases n with | zero => exact .nil | succ n => exact .cons h (ih n t)
theorem Rls.drop (n : Nat) (r : Rls K b ws vs) : Rls K b (ws.drop n) (vs.drop n) := by
  induction ws generalizing vs n with
  | nil => cases r; simp; exact .nil
  | cons w ws ih => cases r with | cons h t => cases n with | zero => exact .cons h t | succ n => exact ih n t
theorem Rls.set (i : Nat) (h : Rl K b w v) (r : Rls K b ws vs) : Rls K b (ws.set i w) (vs.set i v) := by
  induction ws generalizing vs i with
  | nil => cases r; exact .nil
  | cons z ws ih => cases r with | cons h' t => cases i with | zero => exact .cons h t | succ i => exact .cons h' (ih i t)
end

/-- pairs with the same keys and related values -/
def Rlk {κ : Type} (K : PySem.W.Frag) (b : Bs) (kvs : List (κ × W)) (ps : List (κ × V)) : Prop := ps.map (·.1) = kvs.map (·.1) ∧ Rls K b (kvs.map (·.2)) (ps.map (·.2))
/-- what stands at the number i -/
def ObR (K : PySem.W.Frag) (b : Bs) (i : Nat) : Ob → Prop
  | .lst ws => ∃ vs, b.H (b.at_ i) = some (.lst vs) ∧ Rls K b ws vs
  | .ro ws => ∃ vs, ((∃ o, b.H (b.at_ i) = some (.frz o (.lst vs))) ∨ SqL K (fun _ => none) (b.at_ i) vs) ∧ Rls K b ws vs
  | .dct kvs => ∃ ps, b.H (b.at_ i) = some (.dK ps) ∧ Rlk K b kvs ps
  | .rod kvs => ∃ o ps, b.H (b.at_ i) = some (.frz o (.dK ps)) ∧ Rlk K b kvs ps
  | .ins C fs => ∃ dx ps, b.H (b.at_ i) = some (.ins (He.ga K C) dx ps) ∧ Rlk K b fs ps
/-- what may be written -/
def Ob.rw : Ob → Bool
  | .ro _ => false
  | .rod _ => false
  | _ => true
structure Sim (K : PySem.W.Frag) (b : Bs) (h : MH) : Prop where
  len : b.n = h.length
  ob : ∀ i o, h[i]? = some o → ObR K b i o
  inj : ∀ i j o u, h[i]? = some o → h[j]? = some u → o.rw = true → u.rw = true → b.at_ i = b.at_ j → i = j

section
variable {κ : Type} {K : PySem.W.Frag} {b c : Bs} {h : MH}
theorem Rlk.ext (x : Ext K b c) {kvs : List (κ × W)} {ps : List (κ × V)} (r : Rlk K b kvs ps) : Rlk K c kvs ps := ⟨r.1, r.2.ext x⟩
theorem Rlk.cons {k : κ} {w : W} {v : V} {kvs : List (κ × W)} {ps : List (κ × V)} (r : Rl K b w v) (s : Rlk K b kvs ps) : Rlk K b ((k, w) :: kvs) ((k, v) :: ps) :=
  ⟨by simp [s.1], .cons r s.2⟩
theorem Rlk.nil : Rlk (κ := κ) K b [] [] := ⟨rfl, .nil⟩
theorem Rlk.inv {k : κ} {w : W} {kvs : List (κ × W)} {ps : List (κ × V)} (r : Rlk K b ((k, w) :: kvs) ps) : ∃ v qs, ps = (k, v) :: qs ∧ Rl K b w v ∧ Rlk K b kvs qs := by
  obtain ⟨e, r⟩ := r
  cases ps with
  | nil => cases e
  | cons p ps =>
    obtain ⟨k', v⟩ := p
    simp only [List.map_cons, List.cons.injEq] at e
    obtain ⟨rfl, e⟩ := e
    cases r with
    | cons r rr => exact ⟨v, ps, rfl, r, e, rr⟩
theorem Rlk.inv_nil {ps : List (κ × V)} (r : Rlk K b [] ps) : ps = [] := by
  obtain ⟨e, _⟩ := r
  cases ps with
  | nil => rfl
  | cons p ps => cases e

/-- the address a is not one of the objects that may be written: what is laid at the others stays -/
theorem ObR.keep {i : Nat} {o : Ob} {b' : Bs} (x : Ext K b b') (r : ObR K b i o) (hi : i < b.n) (hH : ∀ q, (o.rw = true ∨ ∃ u z, q = .frz u z) → b.H (b.at_ i) = some q → b'.H (b.at_ i) = some q) : ObR K b' i o := by
  have e := x.ix i hi
  cases o with
  | lst ws => obtain ⟨vs, h1, r⟩ := r; exact ⟨vs, by rw [e]; exact hH _ (.inl rfl) h1, r.ext x⟩
  | dct kvs => obtain ⟨ps, h1, r⟩ := r; exact ⟨ps, by rw [e]; exact hH _ (.inl rfl) h1, r.ext x⟩
  | rod kvs => obtain ⟨o, ps, h1, r⟩ := r; exact ⟨o, ps, by rw [e]; exact hH _ (.inr ⟨_, _, rfl⟩) h1, r.ext x⟩
  | ins C fs => obtain ⟨dx, ps, h1, r⟩ := r; exact ⟨dx, ps, by rw [e]; exact hH _ (.inl rfl) h1, r.ext x⟩
  | ro ws =>
    obtain ⟨vs, h1, r⟩ := r
    refine ⟨vs, ?_, r.ext x⟩
    rw [e]
    rcases h1 with ⟨o, h1⟩ | h1
    · exact .inl ⟨o, hH _ (.inr ⟨_, _, rfl⟩) h1⟩
    · exact .inr h1
theorem sqT_upd {H : Hp} {a p : Addr} {xs : List V} {o : HO} (h : SqT K H a xs) (n : ∀ q, H p = some q → (∀ ys, q ≠ .tup ys) ∧ ∀ o u, q ≠ .frz o u) : SqT K (upd H p o) a xs := by
  rcases h with (h | ⟨o', h⟩) | h
  · refine .inl (.inl ?_)
    rw [upd_ne]
    · exact h
    · rintro rfl; exact (n _ h).1 _ rfl
  · refine .inl (.inr ⟨o', ?_⟩)
    rw [upd_ne]
    · exact h
    · rintro rfl; exact (n _ h).2 _ _ rfl
  · exact .inr h
/-- a new object, at p, with the next number -/
def Bs.push (b : Bs) (p : Addr) (o : HO) : Bs := ⟨fun i => if i = b.n then p else b.at_ i, b.n + 1, upd b.H p o⟩
theorem Bs.push_at (b : Bs) (p : Addr) (o : HO) : (b.push p o).at_ b.n = p := by unfold Bs.push; simp
theorem Bs.push_lt (b : Bs) (p : Addr) (o : HO) {i : Nat} (h : i < b.n) : (b.push p o).at_ i = b.at_ i := by unfold Bs.push; simp [Nat.ne_of_lt h]
theorem Ext.push {p : Addr} {o : HO} (hp : b.H p = none) : Ext K b (b.push p o) :=
  ⟨Nat.le_succ _, fun i hi => b.push_lt p o hi, fun a xs h => sqT_upd h fun q e => by rw [hp] at e; cases e⟩
theorem ObR.some {i : Nat} {o : Ob} (r : ObR K b i o) (hr : o.rw = true) : ∃ q, b.H (b.at_ i) = some q ∧ (∀ ys, q ≠ .tup ys) ∧ (∀ o u, q ≠ .frz o u) ∧ (∀ a, q ≠ .own a) := by
  cases o with
  | lst ws => obtain ⟨vs, h1, r⟩ := r; exact ⟨_, h1, by simp, by simp, by simp⟩
  | dct kvs => obtain ⟨ps, h1, r⟩ := r; exact ⟨_, h1, by simp, by simp, by simp⟩
  | ins C fs => obtain ⟨dx, ps, h1, r⟩ := r; exact ⟨_, h1, by simp, by simp, by simp⟩
  | ro ws => cases hr
  | rod kvs => cases hr
theorem Sim.lt (S : Sim K b h) {i : Nat} {o : Ob} (e : h[i]? = some o) : i < b.n := by
  rw [S.len]; exact (List.getElem?_eq_some_iff.mp e).1
theorem Sim.push (S : Sim K b h) {p : Addr} {x : HO} {o : Ob} (hp : b.H p = none) (r : ObR K (b.push p x) b.n o) : Sim K (b.push p x) (h ++ [o]) := by
  have ext : Ext K b (b.push p x) := Ext.push hp
  refine ⟨by rw [List.length_append, ← S.len]; rfl, fun i u e => ?_, fun i j u u' e e' hr hr' q => ?_⟩
  · by_cases hi : i < h.length
    · rw [List.getElem?_append_left hi] at e
      refine (S.ob i u e).keep ext (S.lt e) fun q _ hq => ?_
      show upd b.H p x _ = _
      rw [upd_ne (ne_of_none hq hp)]
      exact hq
    · have : i = h.length := by
        have := (List.getElem?_eq_some_iff.mp e).1
        rw [List.length_append] at this
        simp at this; omega
      subst this
      rw [List.getElem?_append_right (Nat.le_refl _)] at e
      simp at e; subst e
      rw [← S.len]; exact r
  · have key : ∀ (k : Nat) (w : Ob), (h ++ [o])[k]? = some w → w.rw = true → (k = h.length ∧ (b.push p x).at_ k = p) ∨ (k < h.length ∧ h[k]? = some w ∧ (b.push p x).at_ k = b.at_ k ∧ b.at_ k ≠ p) := fun k w e hr => by
      by_cases hk : k < h.length
      · rw [List.getElem?_append_left hk] at e
        obtain ⟨q, hq, _⟩ := (S.ob k w e).some hr
        exact .inr ⟨hk, e, b.push_lt p x (by rw [S.len]; exact hk), ne_of_none hq hp⟩
      · have : k = h.length := by
          have := (List.getElem?_eq_some_iff.mp e).1
          rw [List.length_append] at this
          simp at this; omega
        subst this
        refine .inl ⟨rfl, ?_⟩
        rw [← S.len]; exact b.push_at p x
    rcases key i u e hr with ⟨k1, k2⟩ | ⟨k1, k2, k3, k4⟩
    · rcases key j u' e' hr' with ⟨l1, l2⟩ | ⟨l1, l2, l3, l4⟩
      · rw [k1, l1]
      · rw [k2, l3] at q; exact absurd q.symm l4
    · rcases key j u' e' hr' with ⟨l1, l2⟩ | ⟨l1, l2, l3, l4⟩
      · rw [k3, l2] at q; exact absurd q k4
      · rw [k3, l3] at q; exact S.inj i j u u' k2 l2 hr hr' q
/-- the object with the number i is changed -/
def Bs.put (b : Bs) (i : Nat) (x : HO) : Bs := ⟨b.at_, b.n, upd b.H (b.at_ i) x⟩
theorem Ext.put {i : Nat} {x : HO} {o : Ob} (r : ObR K b i o) (hr : o.rw = true) : Ext K b (b.put i x) :=
  ⟨Nat.le_refl _, fun _ _ => rfl, fun a xs h => sqT_upd h fun q e => by
    obtain ⟨q', e', n1, n2, _⟩ := r.some hr
    rw [e'] at e; cases e; exact ⟨n1, n2⟩⟩
theorem Sim.put (S : Sim K b h) {i : Nat} {x : HO} {o o' : Ob} (e : h[i]? = some o) (hr : o.rw = true) (hr' : o'.rw = true) (r : ObR K (b.put i x) i o') : Sim K (b.put i x) (h.set i o') := by
  have ext : Ext K b (b.put i x) := Ext.put (S.ob i o e) hr
  have hi : i < h.length := (List.getElem?_eq_some_iff.mp e).1
  refine ⟨by rw [List.length_set, ← S.len]; rfl, fun j u ej => ?_, fun j k u u' ej ek hu hu' q => ?_⟩
  · by_cases hj : i = j
    · subst hj
      rw [List.getElem?_set_self hi] at ej
      cases ej; exact r
    · rw [List.getElem?_set_ne hj] at ej
      refine (S.ob j u ej).keep ext (S.lt ej) fun q hk hq => ?_
      show upd b.H (b.at_ i) x _ = _
      rw [upd_ne]
      · exact hq
      · intro z
        obtain ⟨q', hq', n1, n2, n3⟩ := (S.ob i o e).some hr
        rcases hk with hw | ⟨o2, z2, e2⟩
        · exact hj (S.inj i j o u e ej hr hw z.symm)
        · rw [z, hq'] at hq
          cases hq
          exact n2 _ _ e2
  · have key : ∀ (k : Nat) (w : Ob), (h.set i o')[k]? = some w → w.rw = true → ∃ w' : Ob, h[k]? = some w' ∧ w'.rw = true := fun k (w : Ob) e2 hw => by
      by_cases hk : i = k
      · subst hk; exact ⟨o, e, hr⟩
      · rw [List.getElem?_set_ne hk] at e2; exact ⟨w, e2, hw⟩
    obtain ⟨u1, e1, w1⟩ := key j u ej hu
    obtain ⟨u2, e2, w2⟩ := key k u' ek hu'
    exact S.inj j k u1 u2 e1 e2 w1 w2 q
end
end PM
/-! Sm1: what it is that a mirror's part stands for a piece of the text; names, constants, tests, small statements. -/
namespace PM
open PySem PySem.Spec L2
open PyProof.Rows hiding St

def Xc.v (K : PySem.W.Frag) : Xc → Value
  | .own x => .ref (He.ga K x)
  | .ty n => .type n
/-- behind a part: its result, and what is wanted (of an exception: We) -/
def Post {α β : Type} (K : PySem.W.Frag) (rel : Bs → α → β → Prop) (We : Value → Option Addr → Hp → Prop) (b : Bs) (Q : β → Hp → Prop) : R α → Prop
  | .ok w h => ∀ c v, Ext K b c → Sim K c h → rel c w v → Q v c.H
  | .exc x h => ∀ c, Ext K b c → Sim K c h → We (x.c.v K) (x.d.map c.at_) c.H
  | .stuck => False
section
variable {α β γ δ : Type} {K : PySem.W.Frag} {rel : Bs → α → β → Prop} {rel' : Bs → γ → δ → Prop} {We : Value → Option Addr → Hp → Prop} {b c : Bs}
theorem Post.ext {Q : β → Hp → Prop} {r : R α} (h : Post K rel We b Q r) (x : Ext K b c) : Post K rel We c Q r := by
  cases r with
  | ok w g => exact fun d v y => h d v (x.trans y)
  | exc e g => exact fun d y => h d (x.trans y)
  | stuck => exact h
theorem Post.bind {Q : δ → Hp → Prop} {r : R α} {k : α → MH → R γ} (h : Post K rel' We b Q (r.bind k)) :
    Post K rel We b (fun v H1 => ∃ c w g, c.H = H1 ∧ Ext K b c ∧ Sim K c g ∧ rel c w v ∧ Post K rel' We c Q (k w g)) r := by
  cases r with
  | ok w g => exact fun c v x s r => ⟨c, w, g, rfl, x, s, r, Post.ext (r := k w g) h x⟩
  | exc e g => exact h
  | stuck => exact h
theorem Post.mono {Q Q' : β → Hp → Prop} {r : R α} (h : Post K rel We b Q r) (m : ∀ v H, Q v H → Q' v H) : Post K rel We b Q' r := by
  cases r with
  | ok w g => exact fun c v x s r => m _ _ (h c v x s r)
  | exc e g => exact h
  | stuck => exact h
end
/-- the slots -/
structure SlM (K : PySem.W.Frag) (b : Bs) (m : MS) (σ : L2.St) : Prop where
  len : m.length = σ.length
  at_ : ∀ (i : Nat) (w : W), m[i]? = some (some w) → ∃ v, σ[i]? = some (some v) ∧ Rl K b w v
theorem SlM.ext {K : PySem.W.Frag} {b c : Bs} {m : MS} {σ : L2.St} (s : SlM K b m σ) (x : Ext K b c) : SlM K c m σ := ⟨s.len, fun i w e => let ⟨v, h, r⟩ := s.at_ i w e; ⟨v, h, r.ext x⟩⟩
theorem SlM.set {K : PySem.W.Frag} {b : Bs} {m : MS} {σ : L2.St} {w : W} {v : V} (s : SlM K b m σ) (i : Nat) (r : Rl K b w v) : SlM K b (m.set i (some w)) (σ.set i (some v)) := by
  refine ⟨by simp [s.len], fun j u e => ?_⟩
  by_cases hj : i = j
  · subst hj
    by_cases hi : i < m.length
    · rw [List.getElem?_set_self hi] at e
      cases e
      exact ⟨v, by rw [List.getElem?_set_self (by rw [← s.len]; exact hi)], r⟩
    · rw [List.getElem?_eq_none (by simpa using hi)] at e; cases e
  · rw [List.getElem?_set_ne hj] at e
    obtain ⟨v', h', r'⟩ := s.at_ j u e
    exact ⟨v', by rw [List.getElem?_set_ne hj]; exact h', r'⟩
abbrev rEqB : Bs → Bool → Bool → Prop := fun _ a b => a = b

def tSim (K : PySem.W.Frag) (Wx : WX) (m : EM) : TE := fun σ H Q => ∃ (b : Bs) (h : MH) (σm : MS), b.H = H ∧ Sim K b h ∧ SlM K b σm σ ∧ Post K (Rl K) (fun c d H' => Wx c d σ H') b Q (m σm h)
def tSimT (K : PySem.W.Frag) (Wx : WX) (m : TM) : TT := fun σ H Q => ∃ (b : Bs) (h : MH) (σm : MS), b.H = H ∧ Sim K b h ∧ SlM K b σm σ ∧ Post K rEqB (fun c d H' => Wx c d σ H') b Q (m σm h)
def tSimA (K : PySem.W.Frag) (Wx : WX) (m : AM) : TA := fun σ H Q => ∃ (b : Bs) (h : MH) (σm : MS), b.H = H ∧ Sim K b h ∧ SlM K b σm σ ∧ Post K (Rls K) (fun c d H' => Wx c d σ H') b Q (m σm h)
def PostS (K : PySem.W.Frag) (Wx : WX) (b : Bs) (D : Ends) : RS → Prop
  | .nx σm h => ∀ c σ, Ext K b c → Sim K c h → SlM K c σm σ → D.nx σ c.H
  | .bk σm h => ∀ c σ, Ext K b c → Sim K c h → SlM K c σm σ → D.bk σ c.H
  | .ct σm h => ∀ c σ, Ext K b c → Sim K c h → SlM K c σm σ → D.ct σ c.H
  | .rt w h => ∀ c v, Ext K b c → Sim K c h → Rl K c w v → D.rt v c.H
  | .exc x σm h => ∀ c σ, Ext K b c → Sim K c h → SlM K c σm σ → Wx (x.c.v K) (x.d.map c.at_) σ c.H
  | .stuck => False
def tSimS (K : PySem.W.Frag) (Wx : WX) (m : SM) : TS := fun D σ H => ∃ (b : Bs) (h : MH) (σm : MS), b.H = H ∧ Sim K b h ∧ SlM K b σm σ ∧ PostS K Wx b D (m σm h)
theorem PostS.ext {K : PySem.W.Frag} {Wx : WX} {b c : Bs} {D : Ends} {r : RS} (h : PostS K Wx b D r) (x : Ext K b c) : PostS K Wx c D r := by
  cases r with
  | nx _ _ => exact fun d σ y => h d σ (x.trans y)
  | bk _ _ => exact fun d σ y => h d σ (x.trans y)
  | ct _ _ => exact fun d σ y => h d σ (x.trans y)
  | rt _ _ => exact fun d σ y => h d σ (x.trans y)
  | exc _ _ _ => exact fun d σ y => h d σ (x.trans y)
  | stuck => exact h
/-- a value's part within a statement -/
theorem PostS.st {α β : Type} {K : PySem.W.Frag} {rel : Bs → α → β → Prop} {Wx : WX} {b : Bs} {D : Ends} {σ : L2.St} {σm : MS} {r : R α} {k : α → MH → RS} (hσ : SlM K b σm σ) (h : PostS K Wx b D (r.st σm k)) :
    Post K rel (fun c d H' => Wx c d σ H') b (fun v H1 => ∃ c w g, c.H = H1 ∧ Ext K b c ∧ Sim K c g ∧ rel c w v ∧ PostS K Wx c D (k w g)) r := by
  cases r with
  | ok w g => exact fun c v x s r => ⟨c, w, g, rfl, x, s, r, PostS.ext (r := k w g) h x⟩
  | exc e g => exact fun c x s => h c σ x s (hσ.ext x)
  | stuck => exact h

/-- the mirror's part m stands for the expression e (test; arguments; statement; statements) -/
structure SE (X : Cx) (Wx : WX) (e : Expr) (m : EM) : Prop where
  pe : PE X e (tSim X.K Wx m)
structure STt (X : Cx) (Wx : WX) (e : Expr) (m : TM) : Prop where
  pt : PT X e (tSimT X.K Wx m)
structure STw (X : Cx) (Wx : WX) (e : Expr) (m : TM) : Prop where
  pw : PW X e (tSimT X.K Wx m)
structure SA (X : Cx) (Wx : WX) (es : List Expr) (m : AM) : Prop where
  pa : PA X es (tSimA X.K Wx m)
structure SS (X : Cx) (Wx : WX) (st : Stmt) (m : SM) : Prop where
  ps : PS X st (tSimS X.K Wx m)
structure SSs (X : Cx) (Wx : WX) (sts : List Stmt) (m : SM) : Prop where
  ps : PSs X sts (tSimS X.K Wx m)

theorem pe_imp {X : Cx} {e : Expr} {t u : TE} (h : PE X e t) (m : ∀ σ H Q, u σ H Q → t σ H Q) : PE X e u := ⟨fun pins s σ H Q I q => h.run pins s σ H Q I (m _ _ _ q)⟩
theorem pt_imp {X : Cx} {e : Expr} {t u : TT} (h : PT X e t) (m : ∀ σ H Q, u σ H Q → t σ H Q) : PT X e u := ⟨fun pins s σ H Q I q => h.run pins s σ H Q I (m _ _ _ q)⟩
theorem pw_imp {X : Cx} {e : Expr} {t u : TT} (h : PW X e t) (m : ∀ σ H Q, u σ H Q → t σ H Q) : PW X e u := ⟨fun wh pins s σ H Q I q => h.run wh pins s σ H Q I (m _ _ _ q)⟩
theorem pa_imp {X : Cx} {e : List Expr} {t u : TA} (h : PA X e t) (m : ∀ σ H Q, u σ H Q → t σ H Q) : PA X e u := ⟨fun pos pins s σ H Q I q => h.run pos pins s σ H Q I (m _ _ _ q)⟩
theorem ps_imp {X : Cx} {e : Stmt} {t u : TS} (h : PS X e t) (m : ∀ D σ H, u D σ H → t D σ H) : PS X e u := ⟨fun pins s σ H D I q => h.run pins s σ H D I (m _ _ _ q)⟩
theorem pss_imp {X : Cx} {e : List Stmt} {t u : TS} (h : PSs X e t) (m : ∀ D σ H, u D σ H → t D σ H) : PSs X e u := ⟨fun pins s σ H D I q => h.run pins s σ H D I (m _ _ _ q)⟩

section
variable {X : Cx} {Wx : WX} {pos : Pos}
/-! ### names and constants -/
def eVar (i : Nat) : EM := fun σ h => match σ[i]? with
  | some (some w) => .ok w h
  | _ => .stuck
def eC (w : W) : EM := fun _ h => .ok w h
theorem se_var {i : Nat} {x : Str} (hp : PE X (.Name x pos) (tVar i)) : SE X Wx (.Name x pos) (eVar i) := ⟨pe_imp hp fun σ H Q ⟨b, h, σm, e, S, s, q⟩ => by
  subst e
  unfold eVar at q
  split at q
  · rename_i w hw
    obtain ⟨v, hv, r⟩ := s.at_ _ _ hw
    exact ⟨v, hv, q b v .refl S r⟩
  · exact q.elim⟩
theorem se_c {e : Expr} {w : W} {v : V} (hr : ∀ b, Rl X.K b w v) (h : PE X e (tC v)) : SE X Wx e (eC w) := ⟨pe_imp h fun σ H Q ⟨b, h, σm, e, S, s, q⟩ => by
  subst e
  exact q b v .refl S (hr b)⟩
theorem se_int {i j} : SE X Wx (.Constant (.int i) j pos) (eC (.int i)) := se_c (fun _ => .int i) pe_int
theorem se_bl {i j} : SE X Wx (.Constant (.bool i) j pos) (eC (.bl i)) := se_c (fun _ => .bl i) pe_bl
theorem se_non {j} : SE X Wx (.Constant .none j pos) (eC .non) := se_c (fun _ => .non) pe_non
theorem se_str {x j} : SE X Wx (.Constant (.str x) j pos) (eC (.str x)) := se_c (fun _ => .str x) pe_str
/-! ### values through operations -/
/-- an operation on two values -/
structure OpS (X : Cx) (Wx : WX) (f : Value → Value → Sem Value) (m : W → W → MH → R W) : Prop where
  run : ∀ (pins : List (Addr × Obj)) (s : Shared) (σ : L2.St) (b : Bs) (h : MH) (x y : W) (x' y' : V) (v u : Value) (Q : VK), Inv X pins σ b.H s → Sim X.K b h → Rl X.K b x x' → Rl X.K b y y' → RelV x' v → RelV y' u →
    Post X.K (Rl X.K) (fun c d H' => Wx c d σ H') b Q (m x y h) → wpAny (model X.prog X.w) X.A (f v u) (EP X pins σ Q) X.xe s
def e1 (f : W → MH → R W) (a : EM) : EM := fun σ h => (a σ h).bind f
def e2 (f : W → W → MH → R W) (a c : EM) : EM := fun σ h => (a σ h).bind fun x h1 => (c σ h1).bind fun y h2 => f x y h2
variable {a c e : Expr} {ma mc me : EM}
theorem SE.run (S : SE X Wx e me) {pins : List (Addr × Obj)} {s : Shared} {σ : L2.St} {b : Bs} {h : MH} {σm : MS} {Q : VK} (I : Inv X pins σ b.H s) (M : Sim X.K b h) (l : SlM X.K b σm σ) (q : Post X.K (Rl X.K) (fun c d H' => Wx c d σ H') b Q (me σm h)) :
    wpAny (model X.prog X.w) X.A (eval e X.env) (EP X pins σ Q) X.xe s := S.pe.run pins s σ b.H Q I ⟨b, h, σm, rfl, M, l, q⟩
theorem e2_run {f : Value → Value → Sem Value} {m : W → W → MH → R W} (ho : OpS X Wx f m) (ha : SE X Wx a ma) (hc : SE X Wx c mc) {pins : List (Addr × Obj)} {s : Shared} {σ : L2.St} {H : Hp} {Q : VK} (I : Inv X pins σ H s) (q : tSim X.K Wx (e2 m ma mc) σ H Q) :
    wpAny (model X.prog X.w) X.A (eval a X.env) (fun v s₁ => wpAny (model X.prog X.w) X.A (eval c X.env) (fun u s₂ => wpAny (model X.prog X.w) X.A (f v u) (EP X pins σ Q) X.xe s₂) X.xe s₁) X.xe s := by
  obtain ⟨b, h, σm, rfl, S, l, q⟩ := q
  refine thn (ha.run I S l (Post.bind q)) fun v s1 ⟨x', H1, I1, r1, c1, x, h1, e1, E1, S1, l1, q1⟩ => ?_
  subst e1
  refine thn (hc.run I1 S1 (l.ext E1) (Post.bind q1)) fun u s2 ⟨y', H2, I2, r2, c2, y, h2, e2, E2, S2, l2, q2⟩ => ?_
  subst e2
  exact ho.run pins s2 σ c2 h2 x y x' y' v u Q I2 S2 (l1.ext E2) l2 r1 r2 q2
theorem se_op {op : Operator} {m : W → W → MH → R W} (ho : OpS X Wx (binaryOp op) m) (ha : SE X Wx a ma) (hc : SE X Wx c mc) : SE X Wx (.BinOp a op c pos) (e2 m ma mc) :=
  ⟨⟨fun pins s σ H Q I q => wpAny_BinOp (e2_run ho ha hc I q)⟩⟩
theorem se_cmp {op : CmpOp} {m : W → W → MH → R W} (ho : OpS X Wx (compareOp op) m) (ha : SE X Wx a ma) (hc : SE X Wx c mc) (hm : behindInMarks op c = false) : SE X Wx (.Compare a [op] [c] pos) (e2 m ma mc) :=
  ⟨⟨fun pins s σ H Q I q => wpAny_Compare1 (e2_run ho ha hc I q) hm⟩⟩
/-- a rule of the layer, by what its mirror gives -/
theorem OpS.of {f : Value → Value → Sem Value} {r : R2} {m : W → W → MH → R W} (ho : OpR X f r)
    (k : ∀ (σ : L2.St) (b : Bs) (h : MH) (x y : W) (x' y' : V) (Q : VK), Sim X.K b h → Rl X.K b x x' → Rl X.K b y y' → Post X.K (Rl X.K) (fun c d H' => Wx c d σ H') b Q (m x y h) → r x' y' b.H Q) : OpS X Wx f m :=
  ⟨fun pins s σ b h x y x' y' v u Q I S r1 r2 rv ru q => ho pins s σ b.H x' y' v u Q I rv ru (k σ b h x y x' y' Q S r1 r2 q)⟩
end
end PM
/-! Sm2: truth, and, or, not, chains, arguments, displays, calls of built-ins. -/
namespace PM
open PySem PySem.Spec L2
open PyProof.Rows hiding St
section
variable {K : PySem.W.Frag} {b : Bs} {h : MH}
/-- a list's items -/
def lstAt (h : MH) (i : Nat) : Option (List W) := match h[i]? with
  | some (.lst xs) => some xs
  | some (.ro xs) => some xs
  | _ => none
theorem Sim.list (S : Sim K b h) {i : Nat} {xs : List W} (e : lstAt h i = some xs) : ∃ vs, SqL K b.H (b.at_ i) vs ∧ Rls K b xs vs ∧ i < b.n := by
  unfold lstAt at e
  split at e
  · rename_i ys hi
    cases e
    obtain ⟨vs, h1, r⟩ := S.ob _ _ hi
    exact ⟨vs, .inl (.inl h1), r, S.lt hi⟩
  · rename_i ys hi
    cases e
    obtain ⟨vs, h1, r⟩ := S.ob _ _ hi
    refine ⟨vs, ?_, r, S.lt hi⟩
    rcases h1 with ⟨o, h1⟩ | h1
    · exact .inl (.inr ⟨o, h1⟩)
    · rcases h1 with (h1 | ⟨o, h1⟩) | h1
      · cases h1
      · cases h1
      · exact .inr h1
  · cases e
/-- a list that may be written -/
def mutAt (h : MH) (i : Nat) : Option (List W) := match h[i]? with
  | some (.lst xs) => some xs
  | _ => none
theorem mutAt_eq {h : MH} {i : Nat} {xs : List W} (e : mutAt h i = some xs) : h[i]? = some (.lst xs) := by
  unfold mutAt at e
  split at e
  · rename_i ys hi
    cases e; exact hi
  · cases e
theorem Sim.mut (S : Sim K b h) {i : Nat} {xs : List W} (e : mutAt h i = some xs) : ∃ vs, b.H (b.at_ i) = some (.lst vs) ∧ Rls K b xs vs ∧ i < b.n := by
  have q := mutAt_eq e
  obtain ⟨vs, h1, r⟩ := S.ob _ _ q
  exact ⟨vs, h1, r, S.lt q⟩
theorem Sim.dict (S : Sim K b h) {i : Nat} {kvs : List (Key × W)} (e : h[i]? = some (.dct kvs)) : ∃ ps, b.H (b.at_ i) = some (.dK ps) ∧ Rlk K b kvs ps ∧ i < b.n := by
  obtain ⟨vs, h1, r⟩ := S.ob _ _ e
  exact ⟨vs, h1, r, S.lt e⟩
theorem Rls.isEmpty {ws : List W} {vs : List V} (r : Rls K b ws vs) : vs.isEmpty = ws.isEmpty := by cases r <;> rfl
/-- a list is written -/
theorem Sim.putL (S : Sim K b h) {i : Nat} {xs ys : List W} {vs : List V} (e : mutAt h i = some xs) (r : Rls K b ys vs) : Ext K b (b.put i (.lst vs)) ∧ Sim K (b.put i (.lst vs)) (h.set i (.lst ys)) := by
  have q := mutAt_eq e
  have x : Ext K b (b.put i (.lst vs)) := Ext.put (S.ob _ _ q) rfl
  exact ⟨x, S.put q rfl rfl ⟨vs, upd_same, r.ext x⟩⟩
/-- a new list -/
theorem Sim.pushL (S : Sim K b h) {p : Addr} {ys : List W} {vs : List V} (hp : b.H p = none) (r : Rls K b ys vs) : Ext K b (b.push p (.lst vs)) ∧ Sim K (b.push p (.lst vs)) (h ++ [.lst ys]) ∧ Rl K (b.push p (.lst vs)) (.ref h.length) (.ref p) := by
  have x : Ext K b (b.push p (.lst vs)) := Ext.push hp
  refine ⟨x, S.push hp ⟨vs, ?_, r.ext x⟩, ?_⟩
  · rw [Bs.push_at]; exact upd_same
  · have q := Rl.ref (K := K) (b := b.push p (.lst vs)) b.n (Nat.lt_succ_self _)
    rw [Bs.push_at, S.len] at q
    exact q
end
/-- an answer where the heap stays -/
theorem Post.here {α β : Type} {K : PySem.W.Frag} {rel : Bs → α → β → Prop} {We : Value → Option Addr → Hp → Prop} {b : Bs} {Q : β → Hp → Prop} {w : α} {v : β} {h : MH} (q : Post K rel We b Q (.ok w h)) (S : Sim K b h) (r : rel b w v) : Q v b.H := q b v .refl S r

theorem bind_assoc' {α β γ : Type} (r : R α) (f : α → MH → R β) (g : β → MH → R γ) : (r.bind f).bind g = r.bind fun a h => (f a h).bind g := by cases r <;> rfl
theorem ite_bind' {α β : Type} {c : Prop} [Decidable c] (r s : R α) (g : α → MH → R β) : (if c then r else s).bind g = if c then r.bind g else s.bind g := by split <;> rfl
/-! ### truth -/
def truW (w : W) (h : MH) : R Bool := match w with
  | .non => .ok false h
  | .bl k => .ok k h
  | .int i => .ok (i != 0) h
  | .str x => if x.length ≤ sizeLine then .ok ((x.length : Int) != 0) h else .stuck
  | .tup xs => .ok (!xs.isEmpty) h
  | .ref i => match lstAt h i with
    | some xs => .ok (!xs.isEmpty) h
    | none => match h[i]? with
      | some (.dct kvs) => .ok (!kvs.isEmpty) h
      | _ => .stuck
  | _ => .stuck
theorem truV_of {K : PySem.W.Frag} {We : Value → Option Addr → Hp → Prop} {b : Bs} {h : MH} {w : W} {v : V} {Q : Bool → Hp → Prop} (S : Sim K b h) (r : Rl K b w v) (q : Post K rEqB We b Q (truW w h)) : ∃ k, TruV K v b.H k ∧ Q k b.H := by
  cases r with
  | non => exact ⟨false, rfl, q.here S rfl⟩
  | bl k => exact ⟨k, rfl, q.here S rfl⟩
  | int i => exact ⟨i != 0, rfl, q.here S rfl⟩
  | str x =>
    unfold truW at q
    dsimp only at q
    split at q
    · rename_i hx
      exact ⟨_, ⟨hx, rfl⟩, q.here S rfl⟩
    · exact q.elim
  | tup a ws vs hs r =>
    exact ⟨!ws.isEmpty, .inr (.inl ⟨vs, hs, by rw [r.isEmpty]⟩), q.here S rfl⟩
  | ref i hi =>
    unfold truW at q
    dsimp only at q
    split at q
    · rename_i xs hx
      obtain ⟨vs, h1, r, _⟩ := S.list hx
      exact ⟨!xs.isEmpty, .inl ⟨vs, h1, by rw [r.isEmpty]⟩, q.here S rfl⟩
    · split at q
      · rename_i kvs hk
        obtain ⟨ps, h1, r, _⟩ := S.dict hk
        refine ⟨!kvs.isEmpty, .inr (.inr ⟨ps, h1, ?_⟩), q.here S rfl⟩
        have := congrArg List.isEmpty r.1
        simpa using this.symm
      · exact q.elim
  | _ => exact q.elim
section
variable {X : Cx} {Wx : WX} {pos : Pos} {a c e : Expr} {ma mc me : EM} {rest : List Expr}
theorem tru_run {pins : List (Addr × Obj)} {s : Shared} {σ : L2.St} {b : Bs} {h : MH} {w : W} {v : V} {u : Value} {Q : Bool → Hp → Prop} {We : Value → Option Addr → Hp → Prop} (I : Inv X pins σ b.H s) (S : Sim X.K b h) (r : Rl X.K b w v) (rv : RelV v u) (q : Post X.K rEqB We b Q (truW w h)) :
    wpAny (model X.prog X.w) X.A (truthy u) (TP X pins σ Q) X.xe s := tru_ok pins s σ b.H v u Q I rv (truV_of S r q)
def tTru (m : EM) : TM := fun σ h => (m σ h).bind truW
/-- a test that is its value's truth -/
theorem st_tru (ha : SE X Wx a ma) (he : ∀ whole, isTrue a X.env whole = (do let v ← whole; standAt a.pos; holding [v] (truthy v)) := by intro _; rfl) : STt X Wx a (tTru ma) := by
  refine ⟨⟨fun pins s σ H Q I q => ?_⟩⟩
  obtain ⟨b, h, σm, rfl, S, l, q⟩ := q
  refine isTrue_plain (thn (ha.run I S l (Post.bind q)) fun v s1 ⟨x, H1, I1, r1, c1, w, h1, e1, E1, S1, l1, q1⟩ => ?_) (he _)
  subst e1
  exact tru_run I1 S1 l1 r1 q1
/-- a comparison as a test -/
theorem st_cmp {op : CmpOp} {m : W → W → MH → R W} (ho : OpS X Wx (compareOp op) m) (ha : SE X Wx a ma) (hc : SE X Wx c mc) (hm : behindInMarks op c = false) : STt X Wx (.Compare a [op] [c] pos) (tTru (e2 m ma mc)) := by
  refine ⟨⟨fun pins s σ H Q I q => ?_⟩⟩
  obtain ⟨b, h, σm, rfl, S, l, q⟩ := q
  refine wpAny_isTrue_Compare1 (thn (e2_run ho ha hc I ⟨b, h, σm, rfl, S, l, Post.bind (rel := Rl X.K) q⟩) fun v s1 q1 => thn q1 fun u s2 q2 => thn q2 fun z s3 ⟨x, H1, I1, r1, c1, w, h1, e1, E1, S1, l1, q1⟩ => ?_) hm
  subst e1
  exact tru_run I1 S1 l1 r1 q1
def tNotM (m : TM) : TM := fun σ h => (m σ h).bind fun k h1 => .ok (!k) h1
theorem tSimT_bind {We : WX} {m : TM} {k : Bool → MH → R Bool} {σ : L2.St} {H : Hp} {Q : Bool → Hp → Prop} (q : tSimT X.K We (fun σ h => (m σ h).bind k) σ H Q) :
    tSimT X.K We m σ H (fun v H1 => ∃ (c : Bs) (g : MH), c.H = H1 ∧ Sim X.K c g ∧ Post X.K rEqB (fun c d H' => We c d σ H') c Q (k v g)) := by
  obtain ⟨b, h, σm, e, S, l, q⟩ := q
  refine ⟨b, h, σm, e, S, l, (Post.bind q).mono fun v H1 ⟨c, w, g, e, x, s, r, p⟩ => ?_⟩
  subst r
  exact ⟨c, g, e, s, p⟩
theorem st_not {m : TM} (ha : STt X Wx a m) : STt X Wx (.UnaryOp .Not a pos) (tNotM m) := by
  refine ⟨pt_imp (pt_not ha.pt) fun σ H Q q => ?_⟩
  obtain ⟨b, h, σm, e, S, l, q⟩ := tSimT_bind q
  exact ⟨b, h, σm, e, S, l, q.mono fun v H1 ⟨c, g, e, s, p⟩ => by subst e; exact p.here s rfl⟩
def tAndM (m n : TM) : TM := fun σ h => (m σ h).bind fun k h1 => if k = true then n σ h1 else .ok false h1
def tOrM (m n : TM) : TM := fun σ h => (m σ h).bind fun k h1 => if k = true then .ok true h1 else n σ h1
variable {m n : TM}
theorem st_w (h : STw X Wx a m) : STt X Wx a m := ⟨h.pw.pt⟩
theorem sw_and1 (ha : STt X Wx a m) : STw X Wx (.BoolOp .And [a] pos) m := ⟨pw_and1 ha.pt⟩
theorem sw_or1 (ha : STt X Wx a m) : STw X Wx (.BoolOp .Or [a] pos) m := ⟨pw_or1 ha.pt⟩
theorem sw_and (ha : STt X Wx a m) (hb : STw X Wx (.BoolOp .And (c :: rest) pos) n) : STw X Wx (.BoolOp .And (a :: c :: rest) pos) (tAndM m n) := by
  refine ⟨pw_imp (pw_and ha.pt hb.pw) fun σ H Q ⟨b, h, σm, e, S, l, q⟩ => ?_⟩
  refine ⟨b, h, σm, e, S, l, (Post.bind q).mono fun v H1 ⟨c, w, g, e, x, s, r, p⟩ => ?_⟩
  subst r; subst e
  cases w with
  | true => rw [if_pos rfl] at p ⊢; exact ⟨c, g, σm, rfl, s, l.ext x, p⟩
  | false => rw [if_neg Bool.false_ne_true] at p ⊢; exact p.here s rfl
theorem sw_or (ha : STt X Wx a m) (hb : STw X Wx (.BoolOp .Or (c :: rest) pos) n) : STw X Wx (.BoolOp .Or (a :: c :: rest) pos) (tOrM m n) := by
  refine ⟨pw_imp (pw_or ha.pt hb.pw) fun σ H Q ⟨b, h, σm, e, S, l, q⟩ => ?_⟩
  refine ⟨b, h, σm, e, S, l, (Post.bind q).mono fun v H1 ⟨c, w, g, e, x, s, r, p⟩ => ?_⟩
  subst r; subst e
  cases w with
  | true => rw [if_pos rfl] at p ⊢; exact p.here s rfl
  | false => rw [if_neg Bool.false_ne_true] at p ⊢; exact ⟨c, g, σm, rfl, s, l.ext x, p⟩
/-! ### as values -/
def eAnd (m n : EM) : EM := fun σ h => (m σ h).bind fun w h1 => (truW w h1).bind fun k h2 => if k = true then n σ h2 else .ok w h2
def eOr (m n : EM) : EM := fun σ h => (m σ h).bind fun w h1 => (truW w h1).bind fun k h2 => if k = true then .ok w h2 else n σ h2
def eNot (m : EM) : EM := fun σ h => (m σ h).bind fun w h1 => (truW w h1).bind fun k h2 => .ok (.bl (!k)) h2
theorem se_one {op} (ha : SE X Wx a ma) : SE X Wx (.BoolOp op [a] pos) ma := ⟨pe_one ha.pe⟩
theorem truW_heap {w : W} {h h' : MH} {k : Bool} (e : truW w h = .ok k h') : h' = h := by
  unfold truW at e
  repeat' split at e
  all_goals first | cases e; rfl | cases e
/-- truth within a binding -/
theorem tru_bind {K : PySem.W.Frag} {We : Value → Option Addr → Hp → Prop} {α β : Type} {rel : Bs → α → β → Prop} {b : Bs} {h : MH} {w : W} {v : V} {Q : β → Hp → Prop} {k : Bool → MH → R α} (S : Sim K b h) (r : Rl K b w v) (q : Post K rel We b Q ((truW w h).bind k)) :
    ∃ t, TruV K v b.H t ∧ truW w h = .ok t h ∧ Post K rel We b Q (k t h) := by
  have p : ∃ t, TruV K v b.H t ∧ (fun t (H : Hp) => truW w h = .ok t h) t b.H := truV_of (We := We) (Q := fun t (_ : Hp) => truW w h = .ok t h) S r (by
    cases e : truW w h with
    | ok t h' =>
      have := truW_heap e
      subst this
      intro c v _ _ r
      cases r; rfl
    | exc x g =>
      exfalso
      unfold truW at e
      repeat' split at e
      all_goals cases e
    | stuck => rw [e] at q; exact q)
  obtain ⟨t, ht, e⟩ := p
  have e' : truW w h = .ok t h := e
  rw [e'] at q
  exact ⟨t, ht, e', q⟩
theorem se_and (ha : SE X Wx a ma) (hb : SE X Wx (.BoolOp .And (c :: rest) pos) mc) : SE X Wx (.BoolOp .And (a :: c :: rest) pos) (eAnd ma mc) := by
  refine ⟨pe_imp (pe_andT ha.pe hb.pe) fun σ H Q ⟨b, h, σm, e, S, l, q⟩ => ?_⟩
  refine ⟨b, h, σm, e, S, l, (Post.bind q).mono fun v H1 ⟨c, w, g, e, x, s, r, p⟩ => ?_⟩
  subst e
  obtain ⟨t, ht, _, p⟩ := tru_bind s r p
  refine ⟨t, ht, ?_⟩
  cases t with
  | true => rw [if_pos rfl] at p ⊢; exact ⟨c, g, σm, rfl, s, l.ext x, p⟩
  | false => rw [if_neg Bool.false_ne_true] at p ⊢; exact p.here s r
theorem se_or (ha : SE X Wx a ma) (hb : SE X Wx (.BoolOp .Or (c :: rest) pos) mc) : SE X Wx (.BoolOp .Or (a :: c :: rest) pos) (eOr ma mc) := by
  refine ⟨pe_imp (pe_orT ha.pe hb.pe) fun σ H Q ⟨b, h, σm, e, S, l, q⟩ => ?_⟩
  refine ⟨b, h, σm, e, S, l, (Post.bind q).mono fun v H1 ⟨c, w, g, e, x, s, r, p⟩ => ?_⟩
  subst e
  obtain ⟨t, ht, _, p⟩ := tru_bind s r p
  refine ⟨t, ht, ?_⟩
  cases t with
  | true => rw [if_pos rfl] at p ⊢; exact p.here s r
  | false => rw [if_neg Bool.false_ne_true] at p ⊢; exact ⟨c, g, σm, rfl, s, l.ext x, p⟩
theorem se_not (ha : SE X Wx a ma) : SE X Wx (.UnaryOp .Not a pos) (eNot ma) := by
  refine ⟨pe_imp (pe_notT ha.pe) fun σ H Q ⟨b, h, σm, e, S, l, q⟩ => ?_⟩
  refine ⟨b, h, σm, e, S, l, (Post.bind q).mono fun v H1 ⟨c, w, g, e, x, s, r, p⟩ => ?_⟩
  subst e
  obtain ⟨t, ht, _, p⟩ := tru_bind s r p
  exact ⟨t, ht, p.here s (.bl _)⟩
def eIf (t : TM) (m n : EM) : EM := fun σ h => (t σ h).bind fun k h1 => if k = true then m σ h1 else n σ h1
theorem se_if {t : TM} {c' : Expr} (hc : STt X Wx c' t) (ha : SE X Wx a ma) (hb : SE X Wx c mc) : SE X Wx (.IfExp c' a c pos) (eIf t ma mc) := by
  refine ⟨pe_imp (pe_ifExp hc.pt ha.pe hb.pe) fun σ H Q ⟨b, h, σm, e, S, l, q⟩ => ?_⟩
  refine ⟨b, h, σm, e, S, l, (Post.bind q).mono fun v H1 ⟨c, w, g, e, x, s, r, p⟩ => ?_⟩
  subst e; subst r
  cases w with
  | true => rw [if_pos rfl] at p ⊢; exact ⟨c, g, σm, rfl, s, l.ext x, p⟩
  | false => rw [if_neg Bool.false_ne_true] at p ⊢; exact ⟨c, g, σm, rfl, s, l.ext x, p⟩
/-! ### a op b op' c -/
def eChain (m n : W → W → MH → R W) (x y z : EM) : EM := fun σ h => (x σ h).bind fun v h1 => (y σ h1).bind fun u h2 => (m v u h2).bind fun t h3 => (truW t h3).bind fun k h4 => if k = true then (z σ h4).bind fun o h5 => n u o h5 else .ok t h4
variable {d : Expr} {md : EM} {op op' : CmpOp} {f f' : W → W → MH → R W}
theorem chain_run (ho : OpS X Wx (compareOp op) f) (ho' : OpS X Wx (compareOp op') f') (ha : SE X Wx a ma) (hc : SE X Wx c mc) (hd : SE X Wx d md) {pins : List (Addr × Obj)} {s : Shared} {σ : L2.St} {H : Hp} {Q : VK} (I : Inv X pins σ H s) (q : tSim X.K Wx (eChain f f' ma mc md) σ H Q) :
    wpAny (model X.prog X.w) X.A (eval a X.env) (fun v s₁ => wpAny (model X.prog X.w) X.A (eval c X.env) (fun u s₂ => wpAny (model X.prog X.w) X.A (compareOp op v u) (fun t s₃ => wpAny (model X.prog X.w) X.A (truthy t) (fun k s₄ =>
      if k = true then wpAny (model X.prog X.w) X.A (eval d X.env) (fun o s₅ => wpAny (model X.prog X.w) X.A (compareOp op' u o) (EP X pins σ Q) X.xe s₅) X.xe s₄ else EP X pins σ Q t s₄) X.xe s₃) X.xe s₂) X.xe s₁) X.xe s := by
  obtain ⟨b, h, σm, rfl, S, l, q⟩ := q
  refine thn (ha.run I S l (Post.bind q)) fun v s1 ⟨x', H1, I1, r1, c1, x, h1, e1, E1, S1, l1, q1⟩ => ?_
  subst e1
  refine thn (hc.run I1 S1 (l.ext E1) (Post.bind q1)) fun u s2 ⟨y', H2, I2, r2, c2, y, h2, e2, E2, S2, l2, q2⟩ => ?_
  subst e2
  refine thn (ho.run pins s2 σ c2 h2 x y x' y' v u _ I2 S2 (l1.ext E2) l2 r1 r2 (Post.bind q2)) fun t s3 ⟨t', H3, I3, r3, c3, w, h3, e3, E3, S3, l3, q3⟩ => ?_
  subst e3
  obtain ⟨k, hk, _, q3⟩ := tru_bind S3 l3 q3
  refine thn (tru_ok pins s3 σ c3.H t' t (fun k' H' => k' = k ∧ H' = c3.H) I3 r3 ⟨k, hk, rfl, rfl⟩) fun k' s4 ⟨H4, I4, e4, e5⟩ => ?_
  subst e4; subst e5
  cases k' with
  | false =>
    rw [if_neg Bool.false_ne_true] at q3 ⊢
    exact ⟨t', c3.H, I4, r3, q3.here S3 l3⟩
  | true =>
    rw [if_pos rfl] at q3 ⊢
    refine thn (hd.run I4 S3 (((l.ext E1).ext E2).ext E3) (Post.bind q3)) fun o s5 ⟨z', H5, I5, r5, c5, z, h5, e5, E5, S5, l5, q5⟩ => ?_
    subst e5
    exact ho'.run pins s5 σ c5 h5 y z y' z' u o Q I5 S5 ((l2.ext E3).ext E5) l5 r2 r5 q5
theorem se_chain (ho : OpS X Wx (compareOp op) f) (ho' : OpS X Wx (compareOp op') f') (ha : SE X Wx a ma) (hc : SE X Wx c mc) (hd : SE X Wx d md) (hm : lastMarks [op, op'] [c, d] = false := by with_unfolding_all rfl) :
    SE X Wx (.Compare a [op, op'] [c, d] pos) (eChain f f' ma mc md) := by
  refine ⟨⟨fun pins s σ H Q I q => ?_⟩⟩
  refine Compare_chain (thn (chain_run ho ho' ha hc hd I q) fun v s1 h1 => chain_link (thn h1 fun u s2 h2 => thn h2 fun t s3 h3 => thn h3 fun k s4 h4 => ?_)) hm
  cases k with
  | false => exact ite_ff h4
  | true => exact ite_tt (chain_last h4)
theorem st_chain (ho : OpS X Wx (compareOp op) f) (ho' : OpS X Wx (compareOp op') f') (ha : SE X Wx a ma) (hc : SE X Wx c mc) (hd : SE X Wx d md) (hm : lastMarks [op, op'] [c, d] = false := by with_unfolding_all rfl) :
    STt X Wx (.Compare a [op, op'] [c, d] pos) (tTru (eChain f f' ma mc md)) := by
  refine ⟨⟨fun pins s σ H Q I q => ?_⟩⟩
  obtain ⟨b, h, σm, rfl, S, l, q⟩ := q
  have q : Post X.K rEqB (fun c d H' => Wx c d σ H') b Q ((ma σm h).bind fun v h1 => (mc σm h1).bind fun u h2 => (f v u h2).bind fun t h3 => (truW t h3).bind fun k h4 => if k = true then (md σm h4).bind fun o h5 => (f' u o h5).bind truW else truW t h4) := by
    unfold tTru eChain at q
    simpa only [bind_assoc', ite_bind', R.bind_ok] using q
  refine isTrue_chain (thn (ha.run I S l (Post.bind q)) fun v s1 ⟨x', H1, I1, r1, c1, x, h1, e1, E1, S1, l1, q1⟩ => ?_) hm
  subst e1
  refine test_link (thn (hc.run I1 S1 (l.ext E1) (Post.bind q1)) fun u s2 ⟨y', H2, I2, r2, c2, y, h2, e2, E2, S2, l2, q2⟩ => ?_)
  subst e2
  refine thn (ho.run pins s2 σ c2 h2 x y x' y' v u _ I2 S2 (l1.ext E2) l2 r1 r2 (Post.bind q2)) fun t s3 ⟨t', H3, I3, r3, c3, w, h3, e3, E3, S3, l3, q3⟩ => ?_
  subst e3
  obtain ⟨k, hk, ek, q3⟩ := tru_bind S3 l3 q3
  refine thn (tru_ok pins s3 σ c3.H t' t (fun k' H' => k' = k ∧ H' = c3.H) I3 r3 ⟨k, hk, rfl, rfl⟩) fun k' s4 ⟨H4, I4, e4, e5⟩ => ?_
  subst e4; subst e5
  cases k' with
  | false =>
    rw [if_neg Bool.false_ne_true, ek] at q3
    exact ite_ff ⟨c3.H, I4, q3.here S3 rfl⟩
  | true =>
    rw [if_pos rfl] at q3
    refine ite_tt (test_last (thn (hd.run I4 S3 (((l.ext E1).ext E2).ext E3) (Post.bind q3)) fun o s5 ⟨z', H5, I5, r5, c5, z, h5, e5, E5, S5, l5, q5⟩ => ?_))
    subst e5
    refine thn (ho'.run pins s5 σ c5 h5 y z y' z' u o _ I5 S5 ((l2.ext E3).ext E5) l5 r2 r5 (Post.bind q5)) fun p s6 ⟨p', H6, I6, r6, c6, w6, h6, e6, E6, S6, l6, q6⟩ => ?_
    subst e6
    exact tru_run I6 S6 l6 r6 q6
end
end PM
/-! Sm3: arguments, displays, calls of built-ins; statements; targets, loops, comprehensions. -/
namespace PM
open PySem PySem.Spec L2
open PyProof.Rows hiding St
section
variable {K : PySem.W.Frag} {b : Bs} {h : MH}
/-- something that the mirror has no number for is laid at p -/
def Bs.also (b : Bs) (p : Addr) (o : HO) : Bs := ⟨b.at_, b.n, upd b.H p o⟩
theorem Ext.also {p : Addr} {o : HO} (hp : b.H p = none) : Ext K b (b.also p o) :=
  ⟨Nat.le_refl _, fun _ _ => rfl, fun a xs h => sqT_upd h fun q e => by rw [hp] at e; cases e⟩
theorem Sim.also (S : Sim K b h) {p : Addr} {o : HO} (hp : b.H p = none) : Sim K (b.also p o) h := by
  refine ⟨S.len, fun i u e => (S.ob i u e).keep (Ext.also hp) (S.lt e) fun q _ hq => ?_, S.inj⟩
  show upd b.H p o _ = _
  rw [upd_ne (ne_of_none hq hp)]
  exact hq
/-- a tuple is made -/
theorem Post.tup {We : Value → Option Addr → Hp → Prop} {Q : VK} {ws : List W} {vs : List V} (S : Sim K b h) (r : Rls K b ws vs) (q : Post K (Rl K) We b Q (.ok (.tup ws) h)) {p : Addr} (hp : b.H p = none) : Q (.ref p) (upd b.H p (.tup vs)) :=
  q (b.also p (.tup vs)) (.ref p) (Ext.also hp) (S.also hp) (.tup p ws vs (.inl (.inl upd_same)) (r.ext (Ext.also hp)))
theorem Post.lst {We : Value → Option Addr → Hp → Prop} {Q : VK} {ws : List W} {vs : List V} (S : Sim K b h) (r : Rls K b ws vs) (q : Post K (Rl K) We b Q (.ok (.ref h.length) (h ++ [.lst ws]))) {p : Addr} (hp : b.H p = none) : Q (.ref p) (upd b.H p (.lst vs)) := by
  obtain ⟨x, S', r'⟩ := S.pushL hp r
  exact q (b.push p (.lst vs)) (.ref p) x S' r'
end

section
variable {X : Cx} {Wx : WX} {pos : Pos} {a c e : Expr} {ma mc me : EM} {es : List Expr} {n : AM}
/-! ### arguments, displays -/
def aNil : AM := fun _ h => .ok [] h
def aCons (m : EM) (n : AM) : AM := fun σ h => (m σ h).bind fun w h1 => (n σ h1).bind fun ws h2 => .ok (w :: ws) h2
theorem sa_nil : SA X Wx [] aNil := ⟨pa_imp pa_nil fun σ H Q ⟨b, h, σm, e, S, l, q⟩ => by subst e; exact q.here S .nil⟩
theorem sa_cons (ha : SE X Wx e me) (hr : SA X Wx es n) (hs : starEach (e :: es) X.env = (false, eval e X.env) :: starEach es X.env := by rfl) : SA X Wx (e :: es) (aCons me n) := by
  refine ⟨pa_imp (pa_cons ha.pe hr.pa hs) fun σ H Q ⟨b, h, σm, e, S, l, q⟩ => ?_⟩
  refine ⟨b, h, σm, e, S, l, (Post.bind q).mono fun v H1 ⟨c, w, g, e, x, s, r, p⟩ => ?_⟩
  refine ⟨c, g, σm, e, s, l.ext x, (Post.bind p).mono fun vs H2 ⟨c2, ws, g2, e2, x2, s2, r2, p2⟩ => ?_⟩
  subst e2
  exact p2.here s2 (.cons (r.ext x2) r2)
theorem SA.run {es : List Expr} {n : AM} (S : SA X Wx es n) (ps : Pos) {pins : List (Addr × Obj)} {s : Shared} {σ : L2.St} {b : Bs} {h : MH} {σm : MS} {Q : List V → Hp → Prop} (I : Inv X pins σ b.H s) (M : Sim X.K b h) (l : SlM X.K b σm σ) (q : Post X.K (Rls X.K) (fun c d H' => Wx c d σ H') b Q (n σm h)) :
    wpAny (model X.prog X.w) X.A (spliced (backTo ps (starEach es X.env))) (AP X pins σ Q) X.xe s := S.pa.run ps pins s σ b.H Q I ⟨b, h, σm, rfl, M, l, q⟩
def eTup (n : AM) : EM := fun σ h => (n σ h).bind fun ws h1 => if ws.length ≤ sizeLine then .ok (.tup ws) h1 else .stuck
def eLst (n : AM) : EM := fun σ h => (n σ h).bind fun ws h1 => if ws.length ≤ sizeLine then .ok (.ref h1.length) (h1 ++ [.lst ws]) else .stuck
theorem se_tup {x1} (ha : SA X Wx es n) : SE X Wx (.Tuple es x1 pos) (eTup n) := by
  refine ⟨pe_imp (pe_tup ha.pa) fun σ H Q ⟨b, h, σm, e, S, l, q⟩ => ?_⟩
  refine ⟨b, h, σm, e, S, l, (Post.bind q).mono fun vs H1 ⟨c, ws, g, e, x, s, r, p⟩ => ?_⟩
  subst e
  split at p
  · rename_i hz
    exact ⟨by rw [← r.length]; exact hz, fun a ha => Post.tup s r p ha⟩
  · exact p.elim
theorem se_lst (ha : SA X Wx es n) : SE X Wx (.List es pos) (eLst n) := by
  refine ⟨pe_imp (pe_lst ha.pa) fun σ H Q ⟨b, h, σm, e, S, l, q⟩ => ?_⟩
  refine ⟨b, h, σm, e, S, l, (Post.bind q).mono fun vs H1 ⟨c, ws, g, e, x, s, r, p⟩ => ?_⟩
  subst e
  split at p
  · rename_i hz
    exact ⟨by rw [← r.length]; exact hz, fun a ha => Post.lst s r p ha⟩
  · exact p.elim
/-! ### calls of built-ins -/
structure CallS (X : Cx) (Wx : WX) (f : Value) (m : List W → MH → R W) : Prop where
  run : ∀ (pins : List (Addr × Obj)) (s : Shared) (σ : L2.St) (b : Bs) (h : MH) (ws : List W) (vs : List V) (us : List Value) (Q : VK), Inv X pins σ b.H s → Sim X.K b h → Rls X.K b ws vs → Vals vs us →
    Post X.K (Rl X.K) (fun c d H' => Wx c d σ H') b Q (m ws h) → wpAny (model X.prog X.w) X.A (call f us) (EP X pins σ Q) X.xe s
theorem CallS.of {f : Value} {r : List V → Hp → VK → Prop} {m : List W → MH → R W} (hc : CallR X f r)
    (k : ∀ (σ : L2.St) (b : Bs) (h : MH) (ws : List W) (vs : List V) (Q : VK), Sim X.K b h → Rls X.K b ws vs → Post X.K (Rl X.K) (fun c d H' => Wx c d σ H') b Q (m ws h) → r vs b.H Q) : CallS X Wx f m :=
  ⟨fun pins s σ b h ws vs us Q I S r rv q => hc pins s σ b.H vs us Q I rv (k σ b h ws vs Q S r q)⟩
def eCall (m : List W → MH → R W) (n : AM) : EM := fun σ h => (n σ h).bind m
theorem se_callB {id : String} {x : Str} {p : Pos} {m : List W → MH → R W} (hc : CallS X Wx (.builtin id) m) (hg : Gl X x) (hm : X.mg x = none) (hv : bootBuiltins x = some (.builtin id)) (ha : SA X Wx (e :: es) n) (hn : x ≠ "__name__" := by decide) (hdb : (x == ("__debug__" : Str)) = false := by decide)
    (he : starEach (e :: es) X.env = (false, eval e X.env) :: starEach es X.env := by rfl) (hpl : (backTo pos (starEach es X.env)).any (·.1) = false := by rfl) : SE X Wx (.Call (.Name x p) (e :: es) [] pos) (eCall m n) := by
  refine ⟨⟨fun pins s σ H Q I q => ?_⟩⟩
  obtain ⟨b, h, σm, rfl, S, l, q⟩ := q
  refine wpAny_Call_Name_kw (ld_blt I hg hm hv ?_ hn hdb)
  refine PyProof.Rows.callWith_builtin1 (thn (ha.run pos I S l (Post.bind q)) fun us s1 ⟨vs, H1, I1, r1, c1, ws, h1, e1, E1, S1, l1, q1⟩ => ?_) he hpl
  subst e1
  exact hc.run pins s1 σ c1 h1 ws vs us Q I1 S1 l1 r1 q1
theorem se_callT {T : String} {x : Str} {p : Pos} {m : List W → MH → R W} (hc : CallS X Wx (.type T) m) (hg : Gl X x) (hm : X.mg x = none) (hv : bootBuiltins x = some (.type T)) (ha : SA X Wx (e :: es) n) (hn : x ≠ "__name__" := by decide) (hdb : (x == ("__debug__" : Str)) = false := by decide)
    (he : starEach (e :: es) X.env = (false, eval e X.env) :: starEach es X.env := by rfl) (hpl : (backTo pos (starEach es X.env)).any (·.1) = false := by rfl) : SE X Wx (.Call (.Name x p) (e :: es) [] pos) (eCall m n) := by
  refine ⟨⟨fun pins s σ H Q I q => ?_⟩⟩
  obtain ⟨b, h, σm, rfl, S, l, q⟩ := q
  refine wpAny_Call_Name_kw (ld_blt I hg hm hv ?_ hn hdb)
  refine PyProof.Rows.callWith_type1 (thn (ha.run pos I S l (Post.bind q)) fun us s1 ⟨vs, H1, I1, r1, c1, ws, h1, e1, E1, S1, l1, q1⟩ => ?_) he hpl
  subst e1
  exact hc.run pins s1 σ c1 h1 ws vs us Q I1 S1 l1 r1 q1
end

/-! ### statements -/
section
variable {X : Cx} {Wx : WX} {pos : Pos} {a c e : Expr} {ma mc me : EM} {st : Stmt} {rest : List Stmt} {m n : SM}
def sNext : SM := fun σ h => .nx σ h
def sSeq (m n : SM) : SM := fun σ h => (m σ h).seq n
theorem PostS.seq {K : PySem.W.Frag} {b : Bs} {D : Ends} {r : RS} {k : SM} (h : PostS K Wx b D (r.seq k)) : PostS K Wx b { D with nx := fun σ H => ∃ c g σm, c.H = H ∧ Ext K b c ∧ Sim K c g ∧ SlM K c σm σ ∧ PostS K Wx c D (k σm g) } r := by
  cases r with
  | nx σm g => exact fun c σ x s l => ⟨c, g, σm, rfl, x, s, l, PostS.ext (r := k σm g) h x⟩
  | rt w g => exact h
  | bk _ _ => exact h
  | ct _ _ => exact h
  | exc _ _ _ => exact h
  | stuck => exact h
theorem PostS.mono {K : PySem.W.Frag} {b : Bs} {D D' : Ends} {r : RS} (h : PostS K Wx b D r) (h1 : ∀ σ H, D.nx σ H → D'.nx σ H) (h2 : ∀ v H, D.rt v H → D'.rt v H) (h3 : ∀ σ H, D.bk σ H → D'.bk σ H) (h4 : ∀ σ H, D.ct σ H → D'.ct σ H) : PostS K Wx b D' r := by
  cases r with
  | nx σm g => exact fun c σ x s l => h1 _ _ (h c σ x s l)
  | rt w g => exact fun c v x s l => h2 _ _ (h c v x s l)
  | bk _ _ => exact fun c σ x s l => h3 _ _ (h c σ x s l)
  | ct _ _ => exact fun c σ x s l => h4 _ _ (h c σ x s l)
  | exc _ _ _ => exact h
  | stuck => exact h
theorem ss_nil : SSs X Wx [] sNext := ⟨pss_imp pss_nil fun D σ H ⟨b, h, σm, e, S, l, q⟩ => by subst e; exact q b σ .refl S l⟩
theorem ss_cons (h1 : SS X Wx st m) (h2 : SSs X Wx rest n) : SSs X Wx (st :: rest) (sSeq m n) := by
  refine ⟨pss_imp (pss_cons h1.ps h2.ps) fun D σ H ⟨b, h, σm, e, S, l, q⟩ => ?_⟩
  refine ⟨b, h, σm, e, S, l, (PostS.seq q).mono (fun σ' H' ⟨c, g, σm', e', x, s, l', p⟩ => ⟨c, g, σm', e', s, l', p⟩) (fun _ _ z => z) (fun _ _ z => z) (fun _ _ z => z)⟩
theorem ss_one (h1 : SS X Wx st m) : SSs X Wx [st] m := ⟨pss_one h1.ps⟩
/-- a block that is never reached, or stands for nothing -/
def sStuck : SM := fun _ _ => .stuck
theorem ss_never {sts : List Stmt} : SSs X Wx sts sStuck := ⟨pss_imp pss_never fun D σ H ⟨b, h, σm, e, S, l, q⟩ => q.elim⟩
def sBreak : SM := fun σ h => .bk σ h
def sCont : SM := fun σ h => .ct σ h
theorem ss_pass : SS X Wx (.Pass pos) sNext := ⟨ps_imp ps_pass fun D σ H ⟨b, h, σm, e, S, l, q⟩ => by subst e; exact q b σ .refl S l⟩
theorem ss_break : SS X Wx (.Break pos) sBreak := ⟨ps_imp ps_break fun D σ H ⟨b, h, σm, e, S, l, q⟩ => by subst e; exact q b σ .refl S l⟩
theorem ss_continue : SS X Wx (.Continue pos) sCont := ⟨ps_imp ps_continue fun D σ H ⟨b, h, σm, e, S, l, q⟩ => by subst e; exact q b σ .refl S l⟩
theorem ss_doc {x j pos'} : SS X Wx (.Expr (.Constant (.str x) j pos) pos') sNext := ⟨ps_imp ps_doc fun D σ H ⟨b, h, σm, e, S, l, q⟩ => by subst e; exact q b σ .refl S l⟩
def sExpr (m : EM) : SM := fun σ h => (m σ h).st σ fun _ h1 => .nx σ h1
def sRet (m : EM) : SM := fun σ h => (m σ h).st σ fun w h1 => .rt w h1
def sRetN : SM := fun _ h => .rt .non h
def sSet (i : Nat) (m : EM) : SM := fun σ h => (m σ h).st σ fun w h1 => .nx (σ.set i (some w)) h1
theorem ss_expr (he : SE X Wx e me) (hs : swapsWith e none pos.line X.env = pure false := by rfl) : SS X Wx (.Expr e pos) (sExpr me) := by
  refine ⟨ps_imp (ps_expr he.pe hs) fun D σ H ⟨b, h, σm, e, S, l, q⟩ => ?_⟩
  refine ⟨b, h, σm, e, S, l, (PostS.st l q).mono fun v H1 ⟨c, w, g, e, x, s, r, p⟩ => ?_⟩
  subst e
  exact p c σ .refl s (l.ext x)
theorem ss_ret (he : SE X Wx e me) : SS X Wx (.Return (some e) pos) (sRet me) := by
  refine ⟨ps_imp (ps_ret he.pe) fun D σ H ⟨b, h, σm, e, S, l, q⟩ => ?_⟩
  refine ⟨b, h, σm, e, S, l, (PostS.st (rel := Rl X.K) l q).mono fun v H1 ⟨c, w, g, e, x, s, r, p⟩ => ?_⟩
  subst e
  exact p c v .refl s r
theorem ss_retN : SS X Wx (.Return none pos) sRetN := ⟨ps_imp ps_retN fun D σ H ⟨b, h, σm, e, S, l, q⟩ => by subst e; exact q b .non .refl S .non⟩
theorem ss_set {i : Nat} {x : Str} {pos' : Pos} (hN : X.N.Nodup) (hi : X.N[i]? = some x) (hx : Loc X.env.scope x) (he : SE X Wx e me) (hs : swapsWith e (some (.Name x pos')) pos.line X.env = pure false := by rfl) (hf : X.fn x = true ∨ X.env.scope.names.lookup x = some .local := by first | exact .inl rfl | exact .inr rfl | assumption) :
    SS X Wx (.Assign [.Name x pos'] e pos) (sSet i me) := by
  refine ⟨ps_imp (ps_set hN hi hx he.pe hs hf) fun D σ H ⟨b, h, σm, e, S, l, q⟩ => ?_⟩
  refine ⟨b, h, σm, e, S, l, (PostS.st (rel := Rl X.K) l q).mono fun v H1 ⟨c, w, g, e, x, s, r, p⟩ => ?_⟩
  subst e
  exact p c _ .refl s ((l.ext x).set i r)
def sIf (t : TM) (m n : SM) : SM := fun σ h => (t σ h).st σ fun k h1 => if k = true then m σ h1 else n σ h1
theorem ss_if {t : TM} {p q : List Stmt} (hc : STt X Wx c t) (ha : SSs X Wx p m) (hb : SSs X Wx q n) : SS X Wx (.If c p q pos) (sIf t m n) := by
  refine ⟨ps_imp (ps_if hc.pt ha.ps hb.ps) fun D σ H ⟨b, h, σm, e, S, l, q⟩ => ?_⟩
  refine ⟨b, h, σm, e, S, l, (PostS.st (rel := rEqB) l q).mono fun v H1 ⟨c, w, g, e, x, s, r, p⟩ => ?_⟩
  subst e; subst r
  cases w with
  | true => rw [if_pos rfl] at p ⊢; exact ⟨c, g, σm, rfl, s, l.ext x, p⟩
  | false => rw [if_neg Bool.false_ne_true] at p ⊢; exact ⟨c, g, σm, rfl, s, l.ext x, p⟩

/-! ### targets -/
abbrev GM := W → MS → MH → Option MS
/-- slots but those of vs are as they were -/
def Off (vs : List Nat) (σ σ' : L2.St) : Prop := σ'.length = σ.length ∧ ∀ j, j ∉ vs → σ'[j]? = σ[j]?
theorem Off.refl {vs : List Nat} {σ : L2.St} : Off vs σ σ := ⟨rfl, fun _ _ => rfl⟩
theorem Off.trans {vs : List Nat} {σ σ1 σ2 : L2.St} (a : Off vs σ σ1) (b : Off vs σ1 σ2) : Off vs σ σ2 := ⟨b.1.trans a.1, fun j h => (b.2 j h).trans (a.2 j h)⟩
theorem Off.mono {vs us : List Nat} {σ σ1 : L2.St} (a : Off vs σ σ1) (h : ∀ j ∈ vs, j ∈ us) : Off us σ σ1 := ⟨a.1, fun j k => a.2 j fun z => k (h j z)⟩
theorem wipe_get {σ : L2.St} : ∀ (vs : List Nat) (j : Nat), (wipe σ vs)[j]? = if j ∈ vs then (if j < σ.length then some none else none) else σ[j]?
  | [], j => by simp [wipe]
  | v :: vs, j => by
    unfold wipe
    have ih := wipe_get (σ := σ) vs j
    by_cases h : v = j
    · subst h
      by_cases hl : v < (wipe σ vs).length
      · rw [List.getElem?_set_self hl]
        rw [wipe_length] at hl
        simp [hl]
      · rw [List.getElem?_eq_none (by simpa using hl)]
        rw [wipe_length] at hl
        simp [hl]
    · rw [List.getElem?_set_ne h, ih]
      have : (j = v) = False := by simp; exact fun z => h z.symm
      simp [this]
theorem Off.wipe {vs : List Nat} {σ σ' : L2.St} (o : Off vs σ σ') : wipe σ' vs = wipe σ vs := by
  apply List.ext_getElem?
  intro j
  rw [wipe_get, wipe_get, o.1]
  by_cases h : j ∈ vs
  · simp [h]
  · simp [h, o.2 j h]
def gSim (K : PySem.W.Frag) (vs : List Nat) (g : GM) : TG := fun v σ H Q => ∃ (b : Bs) (h : MH) (σm : MS) (w : W), b.H = H ∧ Sim K b h ∧ SlM K b σm σ ∧ Rl K b w v ∧ match g w σm h with
  | some σm' => ∀ c σ', Ext K b c → Sim K c h → SlM K c σm' σ' → Off vs σ σ' → Q σ' c.H
  | none => False
structure SG (X : Cx) (tg : Expr) (vs : List Nat) (g : GM) : Prop where
  pg : PG X tg (gSim X.K vs g)
theorem pg_imp {tg : Expr} {t u : TG} (h : PG X tg t) (m : ∀ v σ H Q, u v σ H Q → t v σ H Q) : PG X tg u := ⟨fun pins s σ H v z Q I r q => h.run pins s σ H v z Q I r (m _ _ _ _ q)⟩
def gN (i : Nat) : GM := fun w σ _ => some (σ.set i (some w))
theorem sg_name {i : Nat} {x : Str} (hN : X.N.Nodup) (hi : X.N[i]? = some x) (hx : Loc X.env.scope x) (hf : X.fn x = true ∨ X.env.scope.names.lookup x = some .local := by first | exact .inl rfl | exact .inr rfl | assumption) : SG X (.Name x pos) [i] (gN i) := by
  refine ⟨pg_imp (pg_name hN hi hx hf) fun v σ H Q ⟨b, h, σm, w, e, S, l, r, q⟩ => ?_⟩
  subst e
  exact q b _ .refl S (l.set i r) ⟨by simp, fun j hj => List.getElem?_set_ne (by simp at hj; omega)⟩
abbrev GMs := List W → MS → MH → Option MS
def gSims (K : PySem.W.Frag) (vs : List Nat) (g : GMs) : TGs := fun us σ H Q => ∃ (b : Bs) (h : MH) (σm : MS) (ws : List W), b.H = H ∧ Sim K b h ∧ SlM K b σm σ ∧ Rls K b ws us ∧ match g ws σm h with
  | some σm' => ∀ c σ', Ext K b c → Sim K c h → SlM K c σm' σ' → Off vs σ σ' → Q σ' c.H
  | none => False
structure SGs (X : Cx) (tgs : List Expr) (vs : List Nat) (g : GMs) : Prop where
  pgs : PGs X tgs (gSims X.K vs g)
theorem pgs_imp {tg : List Expr} {t u : TGs} (h : PGs X tg t) (m : ∀ v σ H Q, u v σ H Q → t v σ H Q) : PGs X tg u := ⟨fun pins s σ H v z Q I r q => h.run pins s σ H v z Q I r (m _ _ _ _ q)⟩
def gNil : GMs := fun ws σ _ => match ws with
  | [] => some σ
  | _ => none
def gCons (g : GM) (k : GMs) : GMs := fun ws σ h => match ws with
  | w :: ws => (g w σ h).bind fun σ' => k ws σ' h
  | [] => none
theorem sg_nil : SGs X [] [] gNil := by
  refine ⟨pgs_imp pgs_nil fun us σ H Q ⟨b, h, σm, ws, e, S, l, r, q⟩ => ?_⟩
  subst e
  cases r with
  | nil => exact ⟨rfl, q b σ .refl S l .refl⟩
  | cons _ _ => exact q.elim
theorem sg_cons {es : List Expr} {vs us : List Nat} {g : GM} {k : GMs} (h1 : SG X e vs g) (h2 : SGs X es us k) (hs : (assignEach (e :: es) X.env).map (·.2) = assign e X.env :: (assignEach es X.env).map (·.2) := by rfl) : SGs X (e :: es) (vs ++ us) (gCons g k) := by
  refine ⟨pgs_imp (pgs_cons h1.pg h2.pgs hs) fun zs σ H Q ⟨b, h, σm, ws, e, S, l, r, q⟩ => ?_⟩
  subst e
  cases r with
  | nil => exact q.elim
  | @cons w v ws' vs' r rr =>
    refine ⟨v, vs', rfl, b, h, σm, w, rfl, S, l, r, ?_⟩
    have q' : match (g w σm h).bind fun σ' => k ws' σ' h with
      | some σm' => ∀ c σ', Ext X.K b c → Sim X.K c h → SlM X.K c σm' σ' → Off (vs ++ us) σ σ' → Q σ' c.H
      | none => False := q
    cases eg : g w σm h with
    | none => rw [eg] at q'; exact q'
    | some σ1 =>
      rw [eg] at q'
      refine fun c σ' x s l' o => ⟨c, h, σ1, ws', rfl, s, l', rr.ext x, ?_⟩
      simp only [Option.bind_some] at q'
      cases ek : k ws' σ1 h with
      | none => rw [ek] at q'; exact q'
      | some σ2 =>
        rw [ek] at q'
        exact fun c2 σ2' x2 s2 l2 o2 => q' c2 σ2' (x.trans x2) s2 l2 ((o.mono fun j hj => List.mem_append_left _ hj).trans (o2.mono fun j hj => List.mem_append_right _ hj))
/-- (a, b, ..) = a tuple -/
def gTp (n : Nat) (k : GMs) : GM := fun w σ h => match w with
  | .tup ws => if ws.length = n then k ws σ h else none
  | _ => none
theorem sg_tup {es : List Expr} {vs : List Nat} {k : GMs} {n k0 : Nat} (hc : X.calm = true) (hk : SGs X es vs k) (hn : (assignEach es X.env).length = n := by rfl) (hst : (assignEach es X.env).findIdx? (·.1) = none := by rfl) : SG X (.Tuple es k0 pos) vs (gTp n k) := by
  refine ⟨pg_imp (pg_tup hc hk.pgs hn hst) fun v σ H Q ⟨b, h, σm, w, e, S, l, r, q⟩ => ?_⟩
  subst e
  unfold gTp at q
  cases r with
  | tup a ws us hs rr =>
    dsimp only at q
    by_cases hz : ws.length = n
    · rw [if_pos hz] at q
      exact ⟨a, us, rfl, hs, by rw [← rr.length]; exact hz, b, h, σm, ws, rfl, S, l, rr, q⟩
    · rw [if_neg hz] at q
      exact q.elim
  | _ => exact q.elim
/-- target = value -/
def sAsg (g : GM) (m : EM) : SM := fun σ h => (m σ h).st σ fun w h1 => match g w σ h1 with
  | some σ' => .nx σ' h1
  | none => .stuck
theorem ss_asg {tg : Expr} {vs : List Nat} {g : GM} (he : SE X Wx e me) (hg : SG X tg vs g) (hs : swapsWithSole [tg] e pos.line X.env = pure false := by rfl) (hw : swappedStores [tg] e X.env = pure none := by rfl)
    (h1 : (assignEach [tg] X.env).map (·.2) = [assign tg X.env] := by rfl) : SS X Wx (.Assign [tg] e pos) (sAsg g me) := by
  refine ⟨ps_imp (ps_asg he.pe hg.pg hs hw h1) fun D σ H ⟨b, h, σm, e, S, l, q⟩ => ?_⟩
  refine ⟨b, h, σm, e, S, l, (PostS.st (rel := Rl X.K) l q).mono fun v H1 ⟨c, w, g', e, x, s, r, p⟩ => ?_⟩
  refine ⟨c, g', σm, w, e, s, l.ext x, r, ?_⟩
  cases eg : g w σm g' with
  | none => rw [eg] at p; exact p
  | some σ1 =>
    rw [eg] at p
    exact fun c2 σ2 x2 s2 l2 _ => p c2 σ2 x2 s2 l2
end
end PM
/-! Sm4: what is walked; for, while; list comprehensions. -/
namespace PM
open PySem PySem.Spec L2
open PyProof.Rows hiding St
/-- what is walked: at most so many items; at turn i: none: not to be told; some none: the end -/
structure MI where
  fuel : Nat
  nx : Nat → MH → Option (Option W)
def ItS (K : PySem.W.Frag) (b0 : Bs) (mi : MI) (J : It) : Prop := ∀ (b : Bs) (h : MH) (i : Nat), Ext K b0 b → Sim K b h → match mi.nx i h with
  | none => True
  | some none => J.stop i b.H
  | some (some w) => J.go i b.H ∧ ∀ x H', J.yld i b.H x H' → ∃ c, c.H = H' ∧ Ext K b c ∧ Sim K c h ∧ Rl K c w x
def iSim (K : PySem.W.Frag) (Wx : WX) (m : MS → MH → R MI) : TI := fun σ H Rr => ∃ (b : Bs) (h : MH) (σm : MS), b.H = H ∧ Sim K b h ∧ SlM K b σm σ ∧ Post K (ItS K) (fun c d H' => Wx c d σ H') b Rr (m σm h)
structure SI (X : Cx) (Wx : WX) (tg iter : Expr) (m : MS → MH → R MI) : Prop where
  pi : PI X tg iter (iSim X.K Wx m)
theorem pi_imp {X : Cx} {tg iter : Expr} {t u : TI} (h : PI X tg iter t) (m : ∀ σ H Q, u σ H Q → t σ H Q) : PI X tg iter u := ⟨fun pins s σ H Q I q => h.run pins s σ H Q I (m _ _ _ q)⟩
theorem pi_or {X : Cx} {tg iter : Expr} {t u : TI} (h : PI X tg iter t) (k : PI X tg iter u) : PI X tg iter (fun σ H Q => t σ H Q ∨ u σ H Q) := ⟨fun pins s σ H Q I q => by
  rcases q with q | q
  · exact h.run pins s σ H Q I q
  · exact k.run pins s σ H Q I q⟩
section
variable {X : Cx} {Wx : WX} {pos : Pos} {a c e tg iter : Expr} {ma mc me : EM} {n : AM}
/-- the items of a list (as it stands at each turn), of a tuple -/
def itL (i : Nat) (xs : List W) : MI := ⟨xs.length, fun k g => match lstAt g i with
  | some ys => some ys[k]?
  | none => none⟩
def itT (ws : List W) : MI := ⟨ws.length, fun k _ => some ws[k]?⟩
/-- a text, sign by sign -/
def itS (x : Str) : MI := ⟨x.length, fun k _ => some (x.cps.toList[k]?.map fun c => .str ⟨#[c]⟩)⟩
theorem itS_ok {K : PySem.W.Frag} {c : Bs} {x : Str} : ItS K c (itS x) (Its x) := by
  intro b h k _ s
  unfold itS
  dsimp only
  cases e : x.cps.toList[k]? with
  | none =>
    have := List.getElem?_eq_none_iff.mp e
    exact show x.cps.size ≤ k by simpa using this
  | some c =>
    have lt := (List.getElem?_eq_some_iff.mp e).1
    refine ⟨show k < x.cps.size by simpa using lt, fun z H' ⟨e3, c', hc, hz⟩ => ⟨b, e3.symm, .refl, s, ?_⟩⟩
    have : x.cps[k]? = some c := by simpa using e
    rw [this] at hc; cases hc
    rw [hz]; exact .str _
def iterW (w : W) (h : MH) : R MI := match w with
  | .str x => .ok (itS x) h
  | .ref i => match lstAt h i with
    | some xs => .ok (itL i xs) h
    | none => .stuck
  | .tup ws => .ok (itT ws) h
  | _ => .stuck
theorem itL_ok {K : PySem.W.Frag} {c : Bs} {i : Nat} {xs : List W} (hi : i < c.n) : ItS K c (itL i xs) (Itl K (c.at_ i)) := by
  intro b h k x s
  unfold itL
  dsimp only
  cases e : lstAt h i with
  | none => trivial
  | some ys =>
    dsimp only
    obtain ⟨vs, h1, r, _⟩ := s.list e
    rw [x.ix i hi] at h1
    cases e2 : ys[k]? with
    | none => exact ⟨vs, h1, by rw [← r.length]; exact List.getElem?_eq_none_iff.mp e2⟩
    | some y =>
      obtain ⟨v, hv, rv⟩ := r.get e2
      refine ⟨⟨vs, v, h1, hv⟩, fun z H' ⟨e3, hz⟩ => ⟨b, e3.symm, .refl, s, ?_⟩⟩
      have := hz vs h1
      rw [hv] at this; cases this
      exact rv
theorem itT_ok {K : PySem.W.Frag} {c : Bs} {a : Addr} {ws : List W} {vs : List V} (hs : SqT K c.H a vs) (r : Rls K c ws vs) : ItS K c (itT ws) (Itt K a) := by
  intro b h k x s
  unfold itT
  dsimp only
  have h1 := x.tp _ _ hs
  cases e2 : ws[k]? with
  | none => exact ⟨vs, h1, by rw [← r.length]; exact List.getElem?_eq_none_iff.mp e2⟩
  | some y =>
    obtain ⟨v, hv, rv⟩ := r.get e2
    refine ⟨⟨vs, v, h1, hv⟩, fun z H' ⟨e3, hz⟩ => ⟨b, e3.symm, .refl, s, ?_⟩⟩
    have := hz vs h1
    rw [hv] at this; cases this
    exact rv.ext x
def iVal (m : EM) : MS → MH → R MI := fun σ h => (m σ h).bind iterW
theorem si_val (ha : SE X Wx a ma) : SI X Wx tg a (iVal ma) := by
  refine ⟨pi_imp (pi_or (pi_list ha.pe) (pi_or (pi_tup ha.pe) (pi_str ha.pe))) fun σ H Q ⟨b, h, σm, e, S, l, q⟩ => ?_⟩
  have q : Post X.K (ItS X.K) (fun c d H' => Wx c d σ H') b Q ((ma σm h).bind iterW) := q
  cases em : ma σm h with
  | stuck => rw [em] at q; exact q.elim
  | exc x g => rw [em] at q; exact .inl ⟨b, h, σm, e, S, l, by rw [em]; exact q⟩
  | ok w g =>
    rw [em] at q
    have q : Post X.K (ItS X.K) (fun c d H' => Wx c d σ H') b Q (iterW w g) := q
    unfold iterW at q
    cases w with
    | ref i =>
      dsimp only at q
      cases el : lstAt g i with
      | none => rw [el] at q; exact q.elim
      | some xs =>
        rw [el] at q
        refine .inl ⟨b, h, σm, e, S, l, ?_⟩
        rw [em]
        intro c v x s r
        cases r with
        | ref _ hi =>
          obtain ⟨vs, h1, r, _⟩ := s.list el
          exact ⟨_, rfl, ⟨vs, h1⟩, q c _ x s (itL_ok hi)⟩
    | tup ws =>
      refine .inr (.inl ⟨b, h, σm, e, S, l, ?_⟩)
      rw [em]
      intro c v x s r
      cases r with
      | tup a _ vs hs r => exact ⟨a, rfl, ⟨vs, hs⟩, q c _ x s (itT_ok hs r)⟩
    | str z =>
      refine .inr (.inr ⟨b, h, σm, e, S, l, ?_⟩)
      rw [em]
      intro c v x s r
      cases r with
      | str _ => exact ⟨z, rfl, q c _ x s itS_ok⟩
    | _ => exact q.elim
/-- range -/
def itR (lo : Int) (n : Nat) : MI := ⟨n, fun k _ => if k < n then some (some (.int (lo + k))) else some none⟩
theorem itR_ok {K : PySem.W.Frag} {c : Bs} {lo : Int} {n : Nat} : ItS K c (itR lo n) (Itr lo n) := by
  intro b h k x s
  unfold itR
  dsimp only
  by_cases hk : k < n
  · rw [if_pos hk]
    exact ⟨hk, fun z H' ⟨e3, hz⟩ => ⟨b, e3.symm, .refl, s, by rw [hz]; exact .int _⟩⟩
  · rw [if_neg hk]
    exact Nat.le_of_not_lt hk
def rng1 (ws : List W) (h : MH) : R MI := match ws with
  | [.int j] => if -(2 ^ 62) ≤ j ∧ j < 2 ^ 62 then .ok (itR 0 j.toNat) h else .stuck
  | _ => .stuck
def rng2 (ws : List W) (h : MH) : R MI := match ws with
  | [.int i, .int j] => if -(2 ^ 62) ≤ i ∧ i < 2 ^ 62 ∧ -(2 ^ 62) ≤ j ∧ j < 2 ^ 62 then .ok (itR i (j - i).toNat) h else .stuck
  | _ => .stuck
def iRange (f : List W → MH → R MI) (n : AM) : MS → MH → R MI := fun σ h => (n σ h).bind f
theorem si_range1 {p pos : Pos} (hg : Gl X "range") (hm : X.mg "range" = none) (ha : SA X Wx [a] n) (hs : starEach [a] X.env = [(false, eval a X.env)] := by rfl) : SI X Wx tg (.Call (.Name "range" p) [a] [] pos) (iRange rng1 n) := by
  refine ⟨pi_imp (pi_range1 hg hm ha.pa hs) fun σ H Q ⟨b, h, σm, e, S, l, q⟩ => ?_⟩
  refine ⟨b, h, σm, e, S, l, (Post.bind q).mono fun vs H1 ⟨c, ws, g, e, x, s, r, p⟩ => ?_⟩
  subst e
  unfold rng1 at p
  split at p
  · rename_i j
    cases r with
    | cons r rr =>
      cases rr; cases r
      split at p
      · rename_i hj
        exact ⟨j, rfl, hj.1, hj.2, p.here s itR_ok⟩
      · exact p.elim
  · exact p.elim
theorem si_range2 {p pos : Pos} {a' : Expr} (hg : Gl X "range") (hm : X.mg "range" = none) (ha : SA X Wx [a, a'] n) (hs : starEach [a, a'] X.env = [(false, eval a X.env), (false, eval a' X.env)] := by rfl) (hs2 : starEach [a'] X.env = [(false, eval a' X.env)] := by rfl) :
    SI X Wx tg (.Call (.Name "range" p) [a, a'] [] pos) (iRange rng2 n) := by
  refine ⟨pi_imp (pi_range2 hg hm ha.pa hs hs2) fun σ H Q ⟨b, h, σm, e, S, l, q⟩ => ?_⟩
  refine ⟨b, h, σm, e, S, l, (Post.bind q).mono fun vs H1 ⟨c, ws, g, e, x, s, r, p⟩ => ?_⟩
  subst e
  unfold rng2 at p
  split at p
  · rename_i i j
    cases r with
    | cons r rr =>
      cases rr with
      | cons r' rr =>
        cases rr; cases r; cases r'
        split at p
        · rename_i hj
          exact ⟨i, j, rfl, hj, p.here s itR_ok⟩
        · exact p.elim
  · exact p.elim
/-! ### for -/
def forGo (mi : MI) (g : GM) (body : SM) : Nat → Nat → MS → MH → RS
  | 0, i, σ, h => match mi.nx i h with
    | some none => .nx σ h
    | _ => .stuck
  | f + 1, i, σ, h => match mi.nx i h with
    | some none => .nx σ h
    | none => .stuck
    | some (some w) => match g w σ h with
      | none => .stuck
      | some σ1 => match body σ1 h with
        | .nx σ2 h2 => forGo mi g body f (i + 1) σ2 h2
        | .ct σ2 h2 => forGo mi g body f (i + 1) σ2 h2
        | .bk σ2 h2 => .nx σ2 h2
        | .rt w2 h2 => .rt w2 h2
        | .exc x σ2 h2 => .exc x σ2 h2
        | .stuck => .stuck
def sFor (it : MS → MH → R MI) (g : GM) (body : SM) : SM := fun σ h => (it σ h).st σ fun mi h1 => forGo mi g body mi.fuel 0 σ h1
theorem ss_for {it : MS → MH → R MI} {vs : List Nat} {g : GM} {body : List Stmt} {mb : SM} (hp : PassesOwn (model X.prog X.w) X.A X.env X.xe) (hc : X.calm = true) (hi : SI X Wx tg iter it) (hg : SG X tg vs g) (hb : SSs X Wx body mb)
    (hs : ∀ x, foldedSetIterable iter X.env x = pure x := by intro _; rfl) : SS X Wx (.For tg iter body [] pos) (sFor it g mb) := by
  refine ⟨ps_imp (ps_for hp hc hi.pi hg.pg hb.ps hs) fun D σ H ⟨b, h, σm, e, S, l, q⟩ => ?_⟩
  refine ⟨b, h, σm, e, S, l, (PostS.st (rel := ItS X.K) l q).mono fun J H1 ⟨c, mi, g1, e, x, s, r, p⟩ => ?_⟩
  subst e
  refine ⟨fun i m σ H => ∃ (b : Bs) (h : MH) (σm : MS), b.H = H ∧ Ext X.K c b ∧ Sim X.K b h ∧ SlM X.K b σm σ ∧ PostS X.K Wx b D (forGo mi g mb m i σm h), ⟨mi.fuel, c, g1, σm, rfl, .refl, s, l.ext x, p⟩, ?_⟩
  rintro i m σ H ⟨b, h, σm, rfl, x, s, l, p⟩
  have ri := r b h i x s
  cases m with
  | zero =>
    unfold forGo at p
    cases em : mi.nx i h with
    | none => rw [em] at p; exact p.elim
    | some ow =>
      cases ow with
      | none => rw [em] at p ri; exact .inl ⟨ri, p b σ .refl s l⟩
      | some w => rw [em] at p; exact p.elim
  | succ f =>
    unfold forGo at p
    cases em : mi.nx i h with
    | none => rw [em] at p; exact p.elim
    | some ow =>
      cases ow with
      | none => rw [em] at p ri; exact .inl ⟨ri, p b σ .refl s l⟩
      | some w =>
        rw [em] at p ri
        dsimp only at p ri
        cases eg : g w σm h with
        | none => rw [eg] at p; exact p.elim
        | some σ1 =>
          rw [eg] at p
          dsimp only at p
          refine .inr ⟨ri.1, fun σ' H' => ∃ (b : Bs) (h : MH) (σm : MS), b.H = H' ∧ Ext X.K c b ∧ Sim X.K b h ∧ SlM X.K b σm σ' ∧ PostS X.K Wx b D (forGo mi g mb f (i + 1) σm h), fun σ' H' z => ⟨f, Nat.lt_succ_self _, z⟩, fun v H' y => ?_⟩
          obtain ⟨c1, e1, x1, s1, r1⟩ := ri.2 v H' y
          refine ⟨c1, h, σm, w, e1, s1, l.ext x1, r1, ?_⟩
          rw [eg]
          refine fun c2 σ2 x2 s2 l2 _ => ⟨c2, h, σ1, rfl, s2, l2, ?_⟩
          have x' : Ext X.K c c2 := x.trans (x1.trans x2)
          have p := PostS.ext p (x1.trans x2)
          cases eb : mb σ1 h with
          | nx σ3 h3 => rw [eb] at p; exact fun d σ4 y4 s4 l4 => ⟨d, h3, σ3, rfl, x'.trans y4, s4, l4, PostS.ext (r := forGo mi g mb f (i + 1) σ3 h3) p y4⟩
          | ct σ3 h3 => rw [eb] at p; exact fun d σ4 y4 s4 l4 => ⟨d, h3, σ3, rfl, x'.trans y4, s4, l4, PostS.ext (r := forGo mi g mb f (i + 1) σ3 h3) p y4⟩
          | bk σ3 h3 => rw [eb] at p; exact p
          | rt w3 h3 => rw [eb] at p; exact p
          | exc _ _ _ => rw [eb] at p; exact p
          | stuck => rw [eb] at p; exact p
/-! ### while -/
def whGo (t : TM) (body : SM) : Nat → MS → MH → RS
  | 0, _, _ => .stuck
  | f + 1, σ, h => (t σ h).st σ fun k h1 => if k = true then
      match body σ h1 with
        | .nx σ2 h2 => whGo t body f σ2 h2
        | .ct σ2 h2 => whGo t body f σ2 h2
        | .bk σ2 h2 => .nx σ2 h2
        | .rt w2 h2 => .rt w2 h2
        | .exc x σ2 h2 => .exc x σ2 h2
        | .stuck => .stuck
    else .nx σ h1
def sWhile (fuel : Nat) (t : TM) (body : SM) : SM := fun σ h => whGo t body fuel σ h
theorem ss_while {t : TM} {body : List Stmt} {mb : SM} (fuel : Nat) (hp : PassesOwn (model X.prog X.w) X.A X.env X.xe) (hc : STt X Wx c t) (hb : SSs X Wx body mb) : SS X Wx (.While c body [] pos) (sWhile fuel t mb) := by
  refine ⟨ps_imp (ps_while hp hc.pt hb.ps) fun D σ H ⟨b, h, σm, e, S, l, q⟩ => ?_⟩
  refine ⟨fun m σ H => ∃ (b : Bs) (h : MH) (σm : MS), b.H = H ∧ Sim X.K b h ∧ SlM X.K b σm σ ∧ PostS X.K Wx b D (whGo t mb m σm h), ⟨fuel, b, h, σm, e, S, l, q⟩, ?_⟩
  rintro m σ H ⟨b, h, σm, rfl, s, l, p⟩
  cases m with
  | zero => exact p.elim
  | succ f =>
    unfold whGo at p
    refine ⟨b, h, σm, rfl, s, l, (PostS.st (rel := rEqB) l p).mono fun k H1 ⟨c1, k', g, e, x, s, r, p⟩ => ?_⟩
    subst e; subst r
    cases k' with
    | false => rw [if_neg Bool.false_ne_true] at p ⊢; exact p c1 σ .refl s (l.ext x)
    | true =>
      rw [if_pos rfl] at p ⊢
      refine ⟨fun σ' H' => ∃ (b : Bs) (h : MH) (σm : MS), b.H = H' ∧ Sim X.K b h ∧ SlM X.K b σm σ' ∧ PostS X.K Wx b D (whGo t mb f σm h), fun σ' H' z => ⟨f, Nat.lt_succ_self _, z⟩, c1, g, σm, rfl, s, l.ext x, ?_⟩
      cases eb : mb σm g with
      | nx σ3 h3 => rw [eb] at p; exact fun d σ4 y4 s4 l4 => ⟨d, h3, σ3, rfl, s4, l4, PostS.ext (r := whGo t mb f σ3 h3) p y4⟩
      | ct σ3 h3 => rw [eb] at p; exact fun d σ4 y4 s4 l4 => ⟨d, h3, σ3, rfl, s4, l4, PostS.ext (r := whGo t mb f σ3 h3) p y4⟩
      | bk σ3 h3 => rw [eb] at p; exact p
      | rt w3 h3 => rw [eb] at p; exact p
      | exc _ _ _ => rw [eb] at p; exact p
      | stuck => rw [eb] at p; exact p
/-! ### comprehensions -/
abbrev W0 : WX := fun _ _ _ _ => False
/-- no exception within -/
def R.nox {α : Type} : R α → R α
  | .ok a h => .ok a h
  | _ => .stuck
@[simp] theorem R.nox_ok {α : Type} (a : α) (h : MH) : (R.ok a h).nox = .ok a h := rfl
@[simp] theorem R.nox_exc {α : Type} (x : Xn) (h : MH) : (R.exc x h : R α).nox = .stuck := rfl
@[simp] theorem R.nox_stuck {α : Type} : (R.stuck : R α).nox = .stuck := rfl
def wipeM (σ : MS) : List Nat → MS
  | [] => σ
  | v :: vs => (wipeM σ vs).set v none
theorem SlM.wipe {K : PySem.W.Frag} {b : Bs} {m : MS} {σ : L2.St} (s : SlM K b m σ) : ∀ vs, SlM K b (wipeM m vs) (wipe σ vs)
  | [] => s
  | v :: vs => by
    have ih := s.wipe vs
    refine ⟨by unfold wipeM L2.wipe; rw [List.length_set, List.length_set]; exact ih.len, fun j u e => ?_⟩
    unfold wipeM at e
    unfold L2.wipe
    by_cases hj : v = j
    · subst hj
      by_cases hi : v < (wipeM m vs).length
      · rw [List.getElem?_set_self hi] at e; cases e
      · rw [List.getElem?_eq_none (by simpa using hi)] at e; cases e
    · rw [List.getElem?_set_ne hj] at e ⊢
      exact ih.at_ j u e
def lcGo (mi : MI) (g : GM) (t : TM) (e : EM) (σ : MS) (j : Nat) : Nat → Nat → MH → R W
  | 0, i, h => match mi.nx i h with
    | some none => .ok (.ref j) h
    | _ => .stuck
  | f + 1, i, h => match mi.nx i h with
    | some none => .ok (.ref j) h
    | none => .stuck
    | some (some w) => match g w σ h with
      | none => .stuck
      | some σ1 => ((t σ1 h).nox).bind fun k h1 => if k = true then
          ((e σ1 h1).nox).bind fun y h2 => match mutAt h2 j with
            | some acc => if acc.length < sizeLine then lcGo mi g t e σ j f (i + 1) (h2.set j (.lst (acc ++ [y]))) else .stuck
            | none => .stuck
        else lcGo mi g t e σ j f (i + 1) h1
/-- the tests of a comprehension -/
def tYesM : TM := fun _ h => .ok true h
structure SPTs (X : Cx) (ifs : List Expr) (m : TM) : Prop where
  pts : PTs X ifs (tSimT X.K W0 m)
theorem spts_nil : SPTs X [] tYesM := ⟨⟨fun pins s σ H Q I ⟨b, h, σm, e, S, l, q⟩ => by
  subst e
  exact pts_nil.run pins s σ b.H Q I (q.here S rfl)⟩⟩
def eLc (it : MS → MH → R MI) (vs : List Nat) (g : GM) (t : TM) (m : EM) : EM := fun σ h => (it σ h).bind fun mi h1 => lcGo mi g t m (wipeM σ vs) h1.length mi.fuel 0 (h1 ++ [.lst []])
end
end PM
/-! Sm5: list comprehensions. -/
namespace PM
open PySem PySem.Spec L2
open PyProof.Rows hiding St
theorem Post.bindN {α β γ δ : Type} {K : PySem.W.Frag} {rel : Bs → α → β → Prop} {rel' : Bs → γ → δ → Prop} {We : Value → Option Addr → Hp → Prop} {b : Bs} {Q : δ → Hp → Prop} {r : R α} {k : α → MH → R γ} (h : Post K rel' We b Q (r.nox.bind k)) :
    Post K rel (fun _ _ _ => False) b (fun v H1 => ∃ c w g, c.H = H1 ∧ Ext K b c ∧ Sim K c g ∧ rel c w v ∧ Post K rel' We c Q (k w g)) r := by
  cases r with
  | ok w g => exact fun c v x s r => ⟨c, w, g, rfl, x, s, r, Post.ext (r := k w g) h x⟩
  | exc e g => exact h.elim
  | stuck => exact h
section
variable {X : Cx} {Wx : WX} {pos : Pos} {a c e tg iter : Expr} {ma mc me : EM} {n : AM}
theorem spts_one {t : TM} (h : STt X W0 c t) : SPTs X [c] t := ⟨pts_one h.pt⟩
/-- what a comprehension asks of its parts, for every block that may be made of them -/
structure LcP (X : Cx) (tg elt : Expr) (ifs : List Expr) (scope : Scope) (own : List (Str × Nat)) (g : GM) (t : TM) (m : EM) : Prop where
  ok : BlkOk X.N X.env.scope scope own
  g : ∀ (s : Shared) (H : Hp) (C : Addr) (cl : List (Str × Addr)) (fp : List Addr), SG (X.blk s H scope (compEnvC scope cl C X.env) fp) tg (own.map (·.2)) g
  t : ∀ (s : Shared) (H : Hp) (C : Addr) (cl : List (Str × Addr)) (fp : List Addr), SPTs (X.blk s H scope (compEnvC scope cl C X.env) fp) ifs t
  e : ∀ (s : Shared) (H : Hp) (C : Addr) (cl : List (Str × Addr)) (fp : List Addr), SE (X.blk s H scope (compEnvC scope cl C X.env) fp) W0 elt m
theorem lc_read {K : PySem.W.Frag} {Wx : WX} {it : MS → MH → R MI} {vs : List Nat} {g : GM} {t : TM} {m : EM} {σ : L2.St} {H : Hp} {Q : VK} (q : tSim K Wx (eLc it vs g t m) σ H Q) :
    tLc (iSim K Wx it) (gSim K vs g) (tSimT K W0 t) (tSim K W0 m) vs σ H Q := by
  obtain ⟨b, h, σm, e, S, l, q⟩ := q
  refine ⟨b, h, σm, e, S, l, (Post.bind (rel := ItS K) q).mono fun J H1 ⟨c, mi, g1, e, x, s, r, p⟩ D hD => ?_⟩
  subst e
  obtain ⟨xD, sD, rD⟩ := s.pushL (ys := []) (vs := []) hD .nil
  have hj : g1.length = c.n := s.len.symm
  refine ⟨fun i f H => ∃ (b : Bs) (h : MH), b.H = H ∧ Ext K (c.push D (.lst [])) b ∧ Sim K b h ∧ SlM K b (wipeM σm vs) (wipe σ vs) ∧ Post K (Rl K) (fun c d H' => Wx c d σ H') b Q (lcGo mi g t m (wipeM σm vs) g1.length f i h), ⟨mi.fuel, c.push D (.lst []), _, rfl, .refl, sD, (((l.ext x).ext xD).wipe vs), Post.ext p xD⟩, ?_⟩
  rintro i f H ⟨b, h, rfl, x2, s2, l2, p⟩
  have ri := r b h i (xD.trans x2) s2
  have atD : b.at_ g1.length = D := by
    rw [x2.ix g1.length (by rw [hj]; exact Nat.lt_succ_self _), hj]
    exact Bs.push_at _ _ _
  have rj : Rl K b (.ref g1.length) (.ref D) := by
    have := Rl.ref (K := K) (b := b) g1.length (Nat.lt_of_lt_of_le (by rw [hj]; exact Nat.lt_succ_self _) x2.le)
    rw [atD] at this
    exact this
  cases f with
  | zero =>
    unfold lcGo at p
    cases em : mi.nx i h with
    | none => rw [em] at p; exact p.elim
    | some ow =>
      cases ow with
      | none => rw [em] at p ri; exact .inl ⟨ri, p.here s2 rj⟩
      | some w => rw [em] at p; exact p.elim
  | succ f =>
    unfold lcGo at p
    cases em : mi.nx i h with
    | none => rw [em] at p; exact p.elim
    | some ow =>
      cases ow with
      | none => rw [em] at p ri; exact .inl ⟨ri, p.here s2 rj⟩
      | some w =>
        rw [em] at p ri
        dsimp only at p ri
        cases eg : g w (wipeM σm vs) h with
        | none => rw [eg] at p; exact p.elim
        | some σ1 =>
          rw [eg] at p
          dsimp only at p
          refine .inr ⟨ri.1, fun H' => ∃ (b : Bs) (h : MH), b.H = H' ∧ Ext K (c.push D (.lst [])) b ∧ Sim K b h ∧ SlM K b (wipeM σm vs) (wipe σ vs) ∧ Post K (Rl K) (fun c d H' => Wx c d σ H') b Q (lcGo mi g t m (wipeM σm vs) g1.length f (i + 1) h), fun H' z => ⟨f, Nat.lt_succ_self _, z⟩, fun v H' y => ?_⟩
          obtain ⟨c1, e1, x1, s1, r1⟩ := ri.2 v H' y
          refine ⟨c1, h, _, w, e1, s1, l2.ext x1, r1, ?_⟩
          rw [eg]
          refine fun c3 σ3 x3 s3 l3 o3 => ⟨?_, c3, h, σ1, rfl, s3, l3, ?_⟩
          · rw [o3.wipe]
            have : Off vs σ (wipe σ vs) := ⟨wipe_length _ _, fun j hj => by rw [wipe_get, if_neg hj]⟩
            rw [this.wipe]
          refine (Post.bindN (rel := rEqB) (Post.ext p (x1.trans x3))).mono fun k H4 ⟨c4, k', g4, e4, x4, s4, r4, p4⟩ => ?_
          subst e4; subst r4
          have l4 : SlM K c4 (wipeM σm vs) (wipe σ vs) := ((l2.ext x1).ext x3).ext x4
          have x04 : Ext K (c.push D (.lst [])) c4 := x2.trans (x1.trans (x3.trans x4))
          cases k' with
          | false =>
            rw [if_neg Bool.false_ne_true] at p4 ⊢
            exact ⟨c4, g4, rfl, x04, s4, l4, p4⟩
          | true =>
            rw [if_pos rfl] at p4 ⊢
            refine ⟨c4, g4, σ1, rfl, s4, l3.ext x4, (Post.bindN (rel := Rl K) p4).mono fun y H5 ⟨c5, yw, g5, e5, x5, s5, r5, p5⟩ => ?_⟩
            subst e5
            cases ea : mutAt g5 g1.length with
            | none => rw [ea] at p5; exact p5.elim
            | some acc =>
              rw [ea] at p5
              dsimp only at p5
              by_cases hz : acc.length < sizeLine
              · rw [if_pos hz] at p5
                obtain ⟨us, h6, r6, lt6⟩ := s5.mut ea
                have at5 : c5.at_ g1.length = D := by
                  rw [(x3.trans (x4.trans x5)).ix _ (Nat.lt_of_lt_of_le (Nat.lt_of_lt_of_le (by rw [hj]; exact Nat.lt_succ_self _) x2.le) x1.le), x1.ix _ (Nat.lt_of_lt_of_le (by rw [hj]; exact Nat.lt_succ_self _) x2.le), atD]
                rw [at5] at h6
                obtain ⟨x7, s7⟩ := s5.putL (ys := acc ++ [yw]) (vs := us ++ [y]) ea (r6.append (.cons r5 .nil))
                refine ⟨us, h6, by rw [← r6.length]; exact hz, c5.put g1.length (.lst (us ++ [y])), _, ?_, x04.trans (x5.trans x7), s7, (l4.ext x5).ext x7, Post.ext p5 x7⟩
                show upd c5.H (c5.at_ g1.length) _ = _
                rw [at5]
              · rw [if_neg hz] at p5; exact p5.elim
theorem se_lc {ifs : List Expr} {scope : Scope} {own : List (Str × Nat)} {it : MS → MH → R MI} {g : GM} {t : TM} {m : EM} {elt : Expr} (hc : X.calm = true) (hN : X.N.Nodup) (hi : SI X Wx tg iter it) (L : LcP X tg elt ifs scope own g t m)
    (hs : ∀ x, foldedSetIterable iter X.env x = pure x := by intro _; rfl) : SE X Wx (.ListComp elt [⟨tg, iter, ifs, 0⟩] scope pos) (eLc it (own.map (·.2)) g t m) :=
  ⟨pe_imp (pe_lc (g := gSim X.K (own.map (·.2)) g) (tt := tSimT X.K W0 t) (te := tSim X.K W0 m) hc hN hi.pi L.ok (fun s H C cl fp => (L.g s H C cl fp).pg) (fun s H C cl fp => (L.t s H C cl fp).pts) (fun s H C cl fp => (L.e s H C cl fp).pe) hs) fun σ H Q q => lc_read q⟩
/-- name = [..] -/
theorem ss_setLc {i : Nat} {y : Str} {py : Pos} {ifs : List Expr} {scope : Scope} {own : List (Str × Nat)} {it : MS → MH → R MI} {g : GM} {t : TM} {m : EM} {elt : Expr} {spos : Pos} (hc : X.calm = true) (hN : X.N.Nodup) (hy : X.N[i]? = some y) (hyl : X.env.scope.names.lookup y = some .local)
    (hsw : swapsWith (.ListComp elt [⟨tg, iter, ifs, 0⟩] scope pos) (some (.Name y py)) spos.line X.env = pure true) (hi : SI X Wx tg iter it) (L : LcP X tg elt ifs scope own g t m)
    (hs : ∀ x, foldedSetIterable iter X.env x = pure x := by intro _; rfl) : SS X Wx (.Assign [.Name y py] (.ListComp elt [⟨tg, iter, ifs, 0⟩] scope pos) spos) (sSet i (eLc it (own.map (·.2)) g t m)) := by
  refine ⟨ps_imp (ps_setLc (g := gSim X.K (own.map (·.2)) g) (tt := tSimT X.K W0 t) (te := tSim X.K W0 m) hc hN hy hyl hsw hi.pi L.ok (fun s H C cl fp => (L.g s H C cl fp).pg) (fun s H C cl fp => (L.t s H C cl fp).pts) (fun s H C cl fp => (L.e s H C cl fp).pe) hs) fun D σ H ⟨b, h, σm, e, S, l, q⟩ => ?_⟩
  refine lc_read ⟨b, h, σm, e, S, l, ?_⟩
  refine (PostS.st (rel := Rl X.K) l q).mono fun v H1 ⟨c, w, g, e, x, s, r, p⟩ => ?_
  subst e
  exact p c _ .refl s ((l.ext x).set i r)
end
end PM
/-! Sm6: defs by their mirrors; calls; a law's entry. -/
namespace PM
open PySem PySem.Spec L2
open PyProof.Rows hiding St
/-- a def's mirror of its body's: np parameters, ns slots -/
def mkF (np ns : Nat) (body : SM) : FM := fun ws h => if ws.length = np then
    match body (ws.map some ++ List.replicate (ns - np) none) h with
    | .nx _ g => .ok .non g
    | .rt w g => .ok w g
    | .exc x _ g => .exc x g
    | _ => .stuck
  else .stuck
/-- the def at f does what m tells; no repr is under way where it is called -/
structure FnG (P : Program) (w : World) (K : PySem.W.Frag) (mg : Str → Option Value) (base : Heap) (k : Nat) (f : Addr) (fd : FuncData) (ps : List Str) (m : FM) : Prop where
  len : ∀ ws h, ws.length ≠ ps.length → m ws h = .stuck
  run : ∀ (A : Around) (outer : List Env) (s : Shared) (b : Bs) (h : MH) (args : Args) (us : List Value) (vs : List V) (ws : List W) (Q : VK) (E : XK), Room k A → A.guards = some [] → Env0 P w K mg base A outer s b.H → BindsTo s fd args (ps.zip us) → Vals vs us →
    Sim K b h → Rls K b ws vs → Post K (Rl K) E b Q (m ws h) → codeAny (model P w) A (.call (.ref f) args) (CR (L2.CX P w) outer P w b.H s Q E) s
theorem FnG.mono {P : Program} {w : World} {K : PySem.W.Frag} {mg : Str → Option Value} {base : Heap} {j k : Nat} {f : Addr} {fd : FuncData} {ps : List Str} {m : FM} (F : FnG P w K mg base j f fd ps m) (h : j ≤ k) : FnG P w K mg base k f fd ps m :=
  ⟨F.len, fun A outer s b g args us vs ws Q E hr => F.run A outer s b g args us vs ws Q E (hr.mono h)⟩
section
variable {P : Program} {w : World} {K : PySem.W.Frag} {mg : Str → Option Value} {base : Heap}
/-- the wish of a def's body -/
abbrev WxOf (E : XK) : WX := fun c d _ H => E c d H
theorem slots_start {b : Bs} {ws : List W} {vs : List V} {N : List Str} (r : Rls K b ws vs) : SlM K b (ws.map some ++ List.replicate (N.length - ws.length) none) (start N vs) := by
  unfold L2.start
  refine ⟨by simp [r.length], fun i w e => ?_⟩
  by_cases hi : i < ws.length
  · rw [List.getElem?_append_left (by simpa using hi), List.getElem?_map] at e
    cases ew : ws[i]? with
    | none => rw [ew] at e; cases e
    | some w' =>
      rw [ew] at e; cases e
      obtain ⟨v, hv, rv⟩ := r.get ew
      refine ⟨v, ?_, rv⟩
      rw [List.getElem?_append_left (by simp [← r.length]; exact hi), List.getElem?_map, hv]; rfl
  · rw [List.getElem?_append_right (by simpa using hi), List.getElem?_replicate] at e
    split at e <;> cases e
/-- a def by its body -/
theorem fnG_of {k : Nat} {f : Addr} {name qual : Str} {params : Arguments} {body : List Stmt} {scope : Scope} {dvs : List V} {kws : List (Str × V)} {fd : FuncData} {N ps : List Str} {m : SM} (F : FunD K name qual params body scope dvs kws f fd) (S : FnScope N ps scope)
    (hbody : ∀ (cdv : Value) (A : Around) (outer : List Env) (s : Shared) (H : Hp) (E : XK), Room k (A.deeper (envOfC qual scope s.heap.objs.size f cdv)) → (A.deeper (envOfC qual scope s.heap.objs.size f cdv)).guards = some [] →
      SSs (cxOf (L2.CX P w) P w K mg base N qual scope f cdv A outer s H E) (WxOf E) body m) : FnG P w K mg base (k + 1) f fd ps (mkF ps.length N.length m) := by
  obtain ⟨oc, od, dV, kV, doc, pm, an, cdv, ct, osl, rfl, lk, hcd, _, _⟩ := F.ex
  refine ⟨fun ws h e => if_neg e, fun A outer s b h args us vs ws Q E hr hg e0 hb rv sim rw q => ?_⟩
  unfold mkF at q
  by_cases hl : ws.length = ps.length
  case neg => rw [if_neg hl] at q; exact q.elim
  rw [if_pos hl] at q
  have hlv : vs.length = ps.length := by rw [← rw.length]; exact hl
  have kin : K.In s.heap := e0.mod.kin.keeps fun b o e => (e0.bs b o e).1
  have lim : s.heap.NoLimit := e0.mod.nolimit.keeps fun b o e => (e0.bs b o e).1
  have kinds : ∀ y ∈ ps.zip us, scope.names.lookup y.1 = some .local ∨ (scope.names.lookup y.1 = some .cell ∧ ((cellsFrom (s.heap.objs.size + 1) scope.names []).lookup y.1).isSome = true) := fun ⟨z, v⟩ hy =>
    (S.par z (List.of_mem_zip hy).1).elim .inl fun q => .inr ⟨q, PySem.W.cellsFrom_some _ _ _ (.inl q)⟩
  refine codeAny_call_function hr.depth (kin _ _ lk) rfl S.co S.gen rfl (PySem.W.codeRec_of kin hcd) (hb _ _ _ _ (wpAny_newFunctionEnv_cells S.kind kinds fun env he s1 x => ?_))
  subst he
  refine ⟨lim.keeps x.toInCall.keep, codeAny_func ?_⟩
  have B := hbody cdv A outer s b.H E (hr.deeper _) hg
  have I : Inv (cxOf (L2.CX P w) P w K mg base N qual scope f cdv A outer s b.H E) [] (start N vs) b.H s1 := inv_start S hr.hd e0 hlv rv x
  have run := B.ps.run [] s1 (start N vs) b.H { nx := fun _ H' => Q .non H', rt := Q } I ⟨b, h, _, rfl, sim, slots_start rw, (by
    rw [hl]
    cases eb : m (ws.map some ++ List.replicate (N.length - ps.length) none) h with
    | nx σm g => rw [eb] at q; exact fun c σ x s _ => q c .non x s .non
    | rt w g => rw [eb] at q; exact q
    | bk _ _ => rw [eb] at q; exact q.elim
    | ct _ _ => rw [eb] at q; exact q.elim
    | exc x σm g => rw [eb] at q; exact fun c σ x s _ => q c x s
    | stuck => rw [eb] at q; exact q)⟩
  refine wpAny_mono run (fun fl s' hs => ?_) fun e s' hs => hs
  have fin : ∀ {σ' : L2.St} {H' : Hp} {v : V} {u : Value}, Inv (cxOf (L2.CX P w) P w K mg base N qual scope f cdv A outer s b.H E) [] σ' H' s' → RelV v u → Q v H' → CE outer P w b.H s Q u s' :=
    fun {σ' H' v u} J rv q => ⟨v, H', J.os, J.bare, J.base, J.hok, rv, q⟩
  cases fl with
  | next => obtain ⟨σ', H', J, q⟩ := hs; exact fin (v := V.non) (u := Value.none) J rfl q
  | ret u => obtain ⟨v, σ', H', J, rv, q⟩ := hs; exact fin J rv q
  | brk => obtain ⟨_, _, _, q⟩ := hs; exact False.elim q
  | cont => obtain ⟨_, _, _, q⟩ := hs; exact False.elim q
end

section
variable {X : Cx} {Wx : WX} {k : Nat} {f : Addr} {fd : FuncData} {ps ks : List Str} {m : FM} {dvs : List V} {ds : List Value} {dws : List W} {x : Str} {p pos : Pos} {e : Expr} {es : List Expr} {kws : List Keyword} {n nk : AM}
/-- the callee runs, its arguments bound to the values us -/
theorem FnG.call (F : FnG X.prog X.w X.K X.mg X.base k f fd ps m) (hr : Room k X.A) (hg : X.A.guards = some []) (tk : Takes X Wx) {pins : List (Addr × Obj)} {σ : L2.St} {b : Bs} {h : MH} {s : Shared} {Q : VK} {us : List Value} {vs : List V} {ws : List W} {args : Args}
    (I : Inv X pins σ b.H s) (hb : us.length = ps.length → BindsTo s fd args (ps.zip us)) (rv : Vals vs us) (S : Sim X.K b h) (rw : Rls X.K b ws vs) (q : Post X.K (Rl X.K) (fun c d H' => Wx c d σ H') b Q (m ws h)) : codeAny (model X.prog X.w) X.A (.call (.ref f) args) (fun r s' => match r with
      | .ok (.ret u) => EP X pins σ Q u s'
      | .ok _ => False
      | .error e => X.xe e s') s := by
  have hl : us.length = ps.length := by
    rw [← rv.length, ← rw.length]
    exact Classical.byContradiction fun z => by rw [F.len ws h z] at q; exact q
  refine codeAny_mono (F.run X.A X.stack s b h args us vs ws Q (fun c d H' => Wx c d σ H') hr hg I.env0 (hb hl) rv S rw q) fun r s' hq => ?_
  cases r with
  | error e => exact tk e s' (XE.of_call I (fun _ _ _ z => z) hq)
  | ok fl => cases fl with
    | ret u => exact I.after hq
    | next => exact hq
    | brk => exact hq
    | cont => exact hq
theorem callAny_of {M : Model} {A : Around} {g : Value} {us : List Value} {kw : List (Str × Value)} {Q : Value → Shared → Prop} {E : Value → Shared → Prop} {s : Shared} (h : codeAny M A (.call g ⟨us, kw⟩) (fun r s' => match r with
      | .ok (.ret u) => Q u s'
      | .ok _ => False
      | .error e => E e s') s) : wpAny M A (call g us kw) Q E s := wpAny_call (codeAny_mono h fun r s' hq => by
  cases r with
  | error e => exact hq
  | ok fl => cases fl with
    | ret u => exact hq
    | next => exact hq.elim
    | brk => exact hq.elim
    | cont => exact hq.elim)
/-- f(e, ..) -/
theorem se_call (F : FnG X.prog X.w X.K X.mg X.base k f fd ps m) (hr : Room k X.A) (hgd : X.A.guards = some []) (tk : Takes X Wx) (hg : Gl X x) (hm : X.mg x = some (.ref f)) (hk : PySem.W.keepIn X.K (.ref f) = true) (hb : Binds X.K fd ps ds) (hd : Vals dvs ds) (hdw : ∀ b, Rls X.K b dws dvs)
    (ha : SA X Wx (e :: es) n) (hdb : (x == ("__debug__" : Str)) = false := by decide) (he : starEach (e :: es) X.env = (false, eval e X.env) :: starEach es X.env := by rfl) (hpl : (backTo pos (starEach es X.env)).any (·.1) = false := by rfl) :
    SE X Wx (.Call (.Name x p) (e :: es) [] pos) (eCall (fun ws => m (ws ++ dws)) n) := by
  refine ⟨⟨fun pins s σ H Q I q => ?_⟩⟩
  obtain ⟨b, h, σm, rfl, S, l, q⟩ := q
  refine wpAny_Call_Name_kw (ld_glob I hg hm ?_ hdb)
  refine PySem.W.callWith_K (h₀ := X.base) I.ok.mod.kin hk (thn (ha.run pos I S l (Post.bind q)) fun us s1 ⟨vs, H1, I1, r1, c1, ws, h1, e1, E1, S1, l1, q1⟩ => ?_) he hpl
  subst e1
  exact ⟨I1.kIn, callAny_of (F.call hr hgd tk I1 (fun hl => hb s1 us I1.kIn hl) (r1.append hd) S1 (l1.append (hdw _)) q1)⟩
/-- f() -/
theorem se_call0 (F : FnG X.prog X.w X.K X.mg X.base k f fd ps m) (hr : Room k X.A) (hgd : X.A.guards = some []) (tk : Takes X Wx) (hg : Gl X x) (hm : X.mg x = some (.ref f)) (hk : PySem.W.keepIn X.K (.ref f) = true) (hb : Binds X.K fd ps ds) (hd : Vals dvs ds) (hdw : ∀ b, Rls X.K b dws dvs)
    (hdb : (x == ("__debug__" : Str)) = false := by decide) : SE X Wx (.Call (.Name x p) [] [] pos) (eCall (fun ws => m (ws ++ dws)) aNil) := by
  refine ⟨⟨fun pins s σ H Q I q => ?_⟩⟩
  obtain ⟨b, h, σm, rfl, S, l, q⟩ := q
  refine wpAny_Call_Name_kw (ld_glob I hg hm ?_ hdb)
  exact PySem.W.callWith_K0 I.kIn hk (callAny_of (F.call (vs := dvs) (ws := dws) hr hgd tk I (fun hl => hb s [] I.kIn hl) (show Vals dvs ([] ++ ds) from hd) S (hdw _) q))
/-! ### keywords -/
def tSimK (K : PySem.W.Frag) (Wx : WX) (m : AM) : TA := tSimA K Wx m
structure SK (X : Cx) (Wx : WX) (kws : List Keyword) (m : AM) : Prop where
  pk : PK X kws (tSimA X.K Wx m)
theorem pk_imp {kws : List Keyword} {t u : TA} (h : PK X kws t) (m : ∀ σ H Q, u σ H Q → t σ H Q) : PK X kws u := ⟨fun pos pins s σ H Q I q => h.run pos pins s σ H Q I (m _ _ _ q)⟩
theorem sk_nil : SK X Wx [] aNil := ⟨pk_imp pk_nil fun σ H Q ⟨b, h, σm, e, S, l, q⟩ => by subst e; exact q.here S .nil⟩
theorem sk_cons {kpos : Pos} {nm : Option Str} {me : EM} (ha : SE X Wx e me) (hr : SK X Wx kws n) : SK X Wx (⟨nm, e, kpos⟩ :: kws) (aCons me n) := by
  refine ⟨pk_imp (pk_cons ha.pe hr.pk) fun σ H Q ⟨b, h, σm, e, S, l, q⟩ => ?_⟩
  refine ⟨b, h, σm, e, S, l, (Post.bind q).mono fun v H1 ⟨c, w, g, e, x, s, r, p⟩ => ?_⟩
  refine ⟨c, g, σm, e, s, l.ext x, (Post.bind p).mono fun vs H2 ⟨c2, ws, g2, e2, x2, s2, r2, p2⟩ => ?_⟩
  subst e2
  exact p2.here s2 (.cons (r.ext x2) r2)
/-- how a call with keywords binds: the positional values, the keywords' values (names ks), in the parameters' order -/
structure KbG (K : PySem.W.Frag) (fd : FuncData) (ps ks : List Str) (np : Nat) (g : List Value → List Value → List Value) (gV : List V → List V → List V) (gW : List W → List W → List W) : Prop where
  to : ∀ (s : Shared) (us ws : List Value), K.In s.heap → us.length = np → ws.length = ks.length → (g us ws).length = ps.length → BindsTo s fd ⟨us, ks.zip ws⟩ (ps.zip (g us ws))
  rel : ∀ {vs : List V} {us : List Value} {zs : List V} {ws : List Value}, Vals vs us → Vals zs ws → Vals (gV vs zs) (g us ws)
  relW : ∀ {b : Bs} {us ws : List W} {vs zs : List V}, Rls K b us vs → Rls K b ws zs → Rls K b (gW us ws) (gV vs zs)
variable {g : List Value → List Value → List Value} {gV : List V → List V → List V} {gW : List W → List W → List W} {np : Nat}
def eCallK (np nk : Nat) (m : List W → List W → MH → R W) (n k : AM) : EM := fun σ h => (n σ h).bind fun ws h1 => (k σ h1).bind fun zs h2 => if ws.length = np ∧ zs.length = nk then m ws zs h2 else .stuck
theorem run_kw (F : FnG X.prog X.w X.K X.mg X.base k f fd ps m) (hr : Room k X.A) (hgd : X.A.guards = some []) (tk : Takes X Wx) (hb : KbG X.K fd ps ks np g gV gW) {pins : List (Addr × Obj)} {σ : L2.St} {b : Bs} {h : MH} {s : Shared} {Q : VK} {us zs : List Value} {vs ys : List V} {ws xs : List W}
    (I : Inv X pins σ b.H s) (rv : Vals vs us) (ry : Vals ys zs) (S : Sim X.K b h) (rw : Rls X.K b ws vs) (rx : Rls X.K b xs ys) (q : Post X.K (Rl X.K) (fun c d H' => Wx c d σ H') b Q (if ws.length = np ∧ xs.length = ks.length then m (gW ws xs) h else .stuck)) :
    wpAny (model X.prog X.w) X.A (call (.ref f) us (ks.zip zs)) (EP X pins σ Q) X.xe s := by
  by_cases hl : ws.length = np ∧ xs.length = ks.length
  case neg => rw [if_neg hl] at q; exact q.elim
  rw [if_pos hl] at q
  exact callAny_of (F.call hr hgd tk I (fun hz => hb.to s us zs I.kIn (by rw [← rv.length, ← rw.length]; exact hl.1) (by rw [← ry.length, ← rx.length]; exact hl.2) hz) (hb.rel rv ry) S (hb.relW rw rx) q)
theorem se_callK (F : FnG X.prog X.w X.K X.mg X.base k f fd ps m) (hr : Room k X.A) (hgd : X.A.guards = some []) (tk : Takes X Wx) (hg : Gl X x) (hm : X.mg x = some (.ref f)) (hk : PySem.W.keepIn X.K (.ref f) = true) (hb : KbG X.K fd ps ks np g gV gW)
    (ha : SA X Wx (e :: es) n) (hkw : SK X Wx kws nk) (hall : (backToKw pos (keywordEach kws X.env)).all (·.1.isSome) = true := by rfl) (hks : (backToKw pos (keywordEach kws X.env)).filterMap (·.1) = ks := by rfl)
    (hdb : (x == ("__debug__" : Str)) = false := by decide) (he : starEach (e :: es) X.env = (false, eval e X.env) :: starEach es X.env := by rfl)
    (hpl : ((backTo pos (starEach (e :: es) X.env)).any (·.1) || (backToKw pos (keywordEach kws X.env)).any (·.1.isNone)) = false := by rfl) :
    SE X Wx (.Call (.Name x p) (e :: es) kws pos) (eCallK np ks.length (fun ws zs => m (gW ws zs)) n nk) := by
  refine ⟨⟨fun pins s σ H Q I q => ?_⟩⟩
  obtain ⟨b, h, σm, rfl, S, l, q⟩ := q
  refine wpAny_Call_Name_kw (ld_glob I hg hm ?_ hdb)
  refine PySem.W.callWith_KW (h₀ := X.base) I.ok.mod.kin hk hall (thn (ha.run pos I S l (Post.bind q)) fun us s1 ⟨vs, H1, I1, r1, c1, ws, h1, e1, E1, S1, l1, q1⟩ => ?_) hpl he
  subst e1
  refine thn (hkw.pk.run pos pins s1 σ _ _ I1 ⟨c1, h1, σm, rfl, S1, l.ext E1, Post.bind q1⟩) fun zs s2 ⟨ys, H2, I2, r2, c2, xs, h2, e2, E2, S2, l2, q2⟩ => ?_
  subst e2
  refine ⟨I2.kIn, ?_⟩
  rw [hks]
  exact run_kw F hr hgd tk hb I2 r1 r2 S2 (l1.ext E2) l2 q2
end
end PM
/-! Sm7: a law's entry. -/
namespace PM
open PySem PySem.Spec L2
open PyProof.Rows hiding St
/-- the mirror's heap at a law's entry: the script -/
def script0 (ns : List Int) : MH := [.ro (ns.map W.int)]
theorem rls_ints {K : PySem.W.Frag} {b : Bs} : ∀ ns : List Int, Rls K b (ns.map W.int) (ns.map V.int)
  | [] => .nil
  | z :: zs => .cons (.int z) (rls_ints zs)
/-- the law's run from its mirror's -/
theorem law_mirror {P : Program} {w : World} {K : PySem.W.Frag} {mg mb : Str → Option Value} {k : Nat} {fa a : Addr} {fd : FuncData} {x : Str} {m : FM} {s₁ : Shared} {vs : List Value} {ns : List Int}
    (KX : K.In s₁.heap) (hns : s₁.heap.Ns mainGlobals mg) (hb : s₁.heap.Ns builtinsNs mb) (hbb : ∀ x : Str, x ≠ "__name__" → mb x = bootBuiltins x) (hlim : s₁.heap.NoLimit) (hg : s₁.gens = #[])
    (ha : s₁.heap.get? a = some { cls := .type "list", data := .seq vs.toArray }) (hi : IntsAre vs ns) (hl : ns.length ≤ sizeLine) (hr : Room k callerA)
    (F : ∀ base : Heap, K.In base → base.Ns mainGlobals mg → FnG P w K mg base k fa fd [x] m) (hbind : ∀ (s : Shared) (u : Value), BindsTo s fd ⟨[u], []⟩ [(x, u)])
    (hm : ∃ h, m [.ref 0] (script0 ns) = .ok (.bl true) h) :
    codeAny (model P w) callerA (.call (.ref fa) ⟨[.ref a], []⟩) (fun r s' => r = .ok (.ret (.bool true)) ∧ OldK s₁.heap s'.heap ∧ s'.os = s₁.os ∧ AllBare s'.gens) s₁ := by
  obtain ⟨hEnd, hm⟩ := hm
  have vint := vals_ints hi
  have lens := hi.length
  -- whatever is tracked: nothing, or the script, locked
  have main : ∀ H : Hp, (∀ b, H b = none ∨ ∃ o xs, H b = some (.frz o (.lst xs))) → (∀ b, H b ≠ none → b = a ∧ K.lookup a = none) → HOk P w H s₁.heap → ((∃ o, H a = some (.frz o (.lst (ns.map V.int)))) ∨ SqL K (fun _ => none) a (ns.map V.int)) →
      codeAny (model P w) callerA (.call (.ref fa) ⟨[.ref a], []⟩) (fun r s' => r = .ok (.ret (.bool true)) ∧ OldK s₁.heap s'.heap ∧ s'.os = s₁.os ∧ AllBare s'.gens) s₁ := by
    intro H only onlyA hok hS
    have free : ∀ {b : Addr} {o : Obj}, s₁.heap.get? b = some o → H b = none → (hidT s₁.heap H).get? b = some o := fun e n => hidT_get e n
    have noDict : ∀ {b : Addr} {o : Obj} {es : Array DictEntry} {ep : Nat}, s₁.heap.get? b = some o → o.data = .dict es ep → H b = none := fun {b o es ep} e d => Classical.byContradiction fun q => by
      have z := (onlyA b q).1
      subst z
      rw [ha] at e; cases e
      have d' : Data.seq vs.toArray _ = Data.dict es ep := d
      cases d'
    have nsH : ∀ {b : Addr} {m : Str → Option Value}, s₁.heap.Ns b m → (hidT s₁.heap H).Ns b m := fun {b m} ⟨o, es, ep, e, d, r⟩ => ⟨o, es, ep, free e (noDict e d), d, r⟩
    have kinH : K.In (hidT s₁.heap H) := fun b o e => free (KX b o e) (Classical.byContradiction fun q => by
      obtain ⟨z, n⟩ := onlyA b q
      subst z
      rw [n] at e; cases e)
    have M : Mod K mg (hidT s₁.heap H) := ⟨kinH, nsH hns, ⟨mb, nsH hb, hbb⟩, let ⟨mc, h1, h2⟩ := hlim; ⟨mc, nsH h1, h2⟩⟩
    have e0 : Env0 P w K mg (hidT s₁.heap H) callerA [] s₁ H := ⟨rfl, M, fun b o e => of_hidT e, Nat.le_of_eq (hidT_size _ _), trivial, fun b hb => (List.not_mem_nil hb).elim, hok, .of_eq hg⟩
    have sim : Sim K ⟨fun _ => a, 1, H⟩ (script0 ns) := by
      refine ⟨rfl, fun i o e => ?_, fun i j o u e e' hr _ _ => ?_⟩
      · cases i with
        | zero =>
          cases e
          exact ⟨ns.map V.int, hS, rls_ints ns⟩
        | succ i => cases e
      · cases i with
        | zero => cases e; cases hr
        | succ i => cases e
    refine codeAny_mono ((F _ kinH (nsH hns)).run callerA [] s₁ ⟨fun _ => a, 1, H⟩ (script0 ns) ⟨[.ref a], []⟩ [.ref a] [.ref a] [.ref 0] (fun v _ => v = .bl true) (fun _ _ _ => False) hr rfl e0 (hbind s₁ (.ref a)) (.cons rfl .nil) sim (.cons (.ref 0 (Nat.lt_succ_self 0)) .nil) (by
      rw [hm]
      intro c v _ _ r
      cases r
      rfl)) fun r s' h => ?_
    cases r with
    | error e =>
      obtain ⟨_, _, _, _, _, _, _, _, _, _, _, _, z⟩ := h
      exact z.elim
    | ok fl =>
      cases fl with
      | next => exact False.elim h
      | brk => exact False.elim h
      | cont => exact False.elim h
      | ret u =>
        obtain ⟨v, H', os, bare, un, hok', r', q⟩ := h
        cases q
        cases (show u = Value.bool true from r')
        refine ⟨rfl, OldK.of_keep fun b o e => ?_, os, bare⟩
        cases q : H b with
        | none => exact un.keep b o e q (fun z => List.not_mem_nil z) (fun z => List.not_mem_nil z)
        | some u =>
          rcases only b with z | ⟨ob, xs, z⟩
          · rw [q] at z; cases z
          · have z2 := un.frzs b ob _ z
            have e1 := (show _ ∧ _ from hok b _ z).1
            have e2 := (show _ ∧ _ from hok' b _ z2).1
            rw [e] at e1; cases e1
            exact e2
  cases hk : K.lookup a with
  | some o =>
    have e := KX a o hk
    rw [ha] at e
    cases e
    exact main (fun _ => none) (fun _ => .inl rfl) (fun _ z => absurd rfl z) (fun b u z => nomatch (show (none : Option HO) = some u from z)) (.inr (.inr ⟨_, vs.toArray, _, hk, rfl, rfl, rfl, by rw [List.size_toArray, lens]; exact hl, by simpa using vint⟩))
  | none =>
    refine main (fun b => if b = a then some (.frz { cls := .type "list", data := .seq vs.toArray } (.lst (ns.map V.int))) else none) (fun b => ?_) (fun b z => ?_) (fun b u z => ?_) (.inl ⟨{ cls := .type "list", data := .seq vs.toArray }, if_pos rfl⟩)
    · by_cases q : b = a
      · exact .inr ⟨_, _, if_pos q⟩
      · exact .inl (if_neg q)
    · exact Classical.byContradiction fun q => by
        by_cases e : b = a
        · exact q ⟨e, hk⟩
        · exact z (if_neg e)
    · by_cases q : b = a
      · subst q
        cases (if_pos rfl).symm.trans z
        exact ⟨ha, by rw [List.length_map]; exact hl, vs, _, vint, ha⟩
      · cases (if_neg q).symm.trans z
/-- a law by its mirror -/
theorem walk_mirror {l : PySem.W.OpenLaw} {n k : Nat} {q : Program} {loose : List Str} {XP : (Str → Option Value) → Heap → Prop} {YP : World → Heap → Prop} {d : DefRec} {x : Str}
    (hn : l.most = some n) (hn2 : n ≤ sizeLine) (hdf : d.params.defaults = []) (hr : Room k callerA)
    (F : ∀ (w : World) (mg : Str → Option Value) (fa : Addr) (h : Heap), YP w h → h.Ns mainGlobals mg → mg d.name = some (.ref fa) →
      ∃ (K : PySem.W.Frag) (fd : FuncData) (m : FM), K.In h ∧ (∀ (s : Shared) (u : Value), BindsTo s fd ⟨[u], []⟩ [(x, u)]) ∧
        (∀ ns : List Int, ns.length ≤ n → (∀ z ∈ ns, Builtin.Int.intBits z ≤ 1048576) → ∃ g, m [.ref 0] (script0 ns) = .ok (.bl true) g) ∧
        ∀ base : Heap, K.In base → base.Ns mainGlobals mg → FnG l.prog w K mg base k fa fd [x] m) :
    PySem.W.WalkO q loose XP YP l.row.toRowW d [] (fun f vs => PySem.call f vs) := by
  refine Att.attach_callB hn hdf fun w s₀ s₁ mg mb fa o pm cd doc a vs ns G Y ho hd hcd hmg hobj hints hlen hbits hg => ?_
  obtain ⟨K, fd, m, KX, hb, hm, hF⟩ := F w mg fa _ Y G.T.g hmg
  exact law_mirror KX G.T.g G.T.b G.T.builtins G.T.nolimit hg hobj hints (Nat.le_trans hlen hn2) hr hF hb (hm ns hlen hbits)
end PM
/-! Sm8: operators, comparisons, subscripts. -/
namespace PM
open PySem PySem.Spec L2
open PyProof.Rows hiding St
/-! ### one rule or another -/
def opAlt (m n : W → W → MH → R W) : W → W → MH → R W := fun x y h => match m x y h with
  | .stuck => n x y h
  | r => r
def clAlt (m n : List W → MH → R W) : List W → MH → R W := fun ws h => match m ws h with
  | .stuck => n ws h
  | r => r
def eAlt (m n : EM) : EM := fun σ h => match m σ h with
  | .stuck => n σ h
  | r => r
section
variable {X : Cx} {Wx : WX}
theorem OpS.alt {f : Value → Value → Sem Value} {m n : W → W → MH → R W} (a : OpS X Wx f m) (c : OpS X Wx f n) : OpS X Wx f (opAlt m n) := by
  refine ⟨fun pins s σ b h x y x' y' v u Q I S r1 r2 rv ru q => ?_⟩
  unfold opAlt at q
  cases e : m x y h with
  | ok w g => rw [e] at q; exact a.run pins s σ b h x y x' y' v u Q I S r1 r2 rv ru (by rw [e]; exact q)
  | exc w g => rw [e] at q; exact a.run pins s σ b h x y x' y' v u Q I S r1 r2 rv ru (by rw [e]; exact q)
  | stuck => rw [e] at q; exact c.run pins s σ b h x y x' y' v u Q I S r1 r2 rv ru q
theorem CallS.alt {f : Value} {m n : List W → MH → R W} (a : CallS X Wx f m) (c : CallS X Wx f n) : CallS X Wx f (clAlt m n) := by
  refine ⟨fun pins s σ b h ws vs us Q I S r1 rv q => ?_⟩
  unfold clAlt at q
  cases e : m ws h with
  | ok w g => rw [e] at q; exact a.run pins s σ b h ws vs us Q I S r1 rv (by rw [e]; exact q)
  | exc w g => rw [e] at q; exact a.run pins s σ b h ws vs us Q I S r1 rv (by rw [e]; exact q)
  | stuck => rw [e] at q; exact c.run pins s σ b h ws vs us Q I S r1 rv q
theorem se_alt {e : Expr} {m n : EM} (a : SE X Wx e m) (c : SE X Wx e n) : SE X Wx e (eAlt m n) := by
  refine ⟨⟨fun pins s σ H Q I ⟨b, h, σm, eH, S, l, q⟩ => ?_⟩⟩
  unfold eAlt at q
  cases e : m σm h with
  | ok w g => rw [e] at q; exact a.pe.run pins s σ H Q I ⟨b, h, σm, eH, S, l, by rw [e]; exact q⟩
  | exc w g => rw [e] at q; exact a.pe.run pins s σ H Q I ⟨b, h, σm, eH, S, l, by rw [e]; exact q⟩
  | stuck => rw [e] at q; exact c.pe.run pins s σ H Q I ⟨b, h, σm, eH, S, l, q⟩
end
/-! ### arithmetic -/
def iOp (C : Int → Int → Bool) (g : Int → Int → W) : W → W → MH → R W
  | .int i, .int j, h => if C i j then .ok (g i j) h else .stuck
  | _, _, _ => .stuck
section
variable {X : Cx} {Wx : WX}
theorem os_int {f : Value → Value → Sem Value} {Cp : Int → Int → Prop} {C : Int → Int → Bool} {g : Int → Int → V} {gw : Int → Int → W} (ho : OpR X f (rI Cp g)) (hC : ∀ i j, C i j = true → Cp i j) (hg : ∀ i j b, Rl X.K b (gw i j) (g i j)) : OpS X Wx f (iOp C gw) :=
  .of ho fun σ b h x y x' y' Q S r1 r2 q => by
    cases r1 <;> first | exact q.elim | skip
    cases r2 <;> first | exact q.elim | skip
    rename_i i j
    unfold iOp at q
    dsimp only at q
    split at q
    · rename_i hc
      exact ⟨i, j, rfl, rfl, hC i j hc, q.here S (hg i j b)⟩
    · exact q.elim
theorem os_int0 {f : Value → Value → Sem Value} {g : Int → Int → V} {gw : Int → Int → W} (ho : OpR X f (rI0 g)) (hg : ∀ i j b, Rl X.K b (gw i j) (g i j)) : OpS X Wx f (iOp (fun _ _ => true) gw) :=
  .of ho fun σ b h x y x' y' Q S r1 r2 q => by
    cases r1 <;> first | exact q.elim | skip
    cases r2 <;> first | exact q.elim | skip
    rename_i i j
    exact ⟨i, j, rfl, rfl, q.here S (hg i j b)⟩
/-- +: ints, texts, lists -/
def bAdd : W → W → MH → R W
  | .int i, .int j, h => .ok (.int (i + j)) h
  | .str x, .str y, h => if x.length + y.length ≤ sizeLine then .ok (.str (x ++ y)) h else .stuck
  | .ref i, .ref j, h => match mutAt h i, mutAt h j with
    | some xs, some ys => if xs.length + ys.length ≤ sizeLine then .ok (.ref h.length) (h ++ [.lst (xs ++ ys)]) else .stuck
    | _, _ => .stuck
  | _, _, _ => .stuck
theorem os_add : OpS X Wx (binaryOp .Add) bAdd := .of (op_add.or (op_add_str.or op_cat)) fun σ b h x y x' y' Q S r1 r2 q => by
  unfold bAdd at q
  split at q
  · cases r1; cases r2; exact .inl ⟨_, _, rfl, rfl, q.here S (.int _)⟩
  · cases r1; cases r2
    split at q
    · rename_i hz; exact .inr (.inl ⟨_, _, rfl, rfl, hz, q.here S (.str _)⟩)
    · exact q.elim
  · rename_i i j h
    cases r1; cases r2
    split at q
    · rename_i xs ys e1 e2
      split at q
      · rename_i hz
        obtain ⟨vs, a1, a2, a3⟩ := S.mut e1
        obtain ⟨us, c1, c2, c3⟩ := S.mut e2
        exact .inr (.inr ⟨_, _, vs, us, rfl, rfl, a1, c1, by rw [← a2.length, ← c2.length]; exact hz, fun p hp => Post.lst S (a2.append c2) q hp⟩)
      · exact q.elim
    · exact q.elim
  · exact q.elim
def bSub : W → W → MH → R W := iOp (fun _ _ => true) fun i j => .int (i - j)
theorem os_sub : OpS X Wx (binaryOp .Sub) bSub := os_int0 op_sub fun i j b => .int _
/-- *: ints; a text or a list by an int -/
def bMul : W → W → MH → R W
  | .int i, .int j, h => if i.natAbs.log2 + j.natAbs.log2 < 1000000 then .ok (.int (i * j)) h else .stuck
  | .str x, .int k, h => if -(2 ^ 63) ≤ k ∧ k < 2 ^ 63 ∧ x.length * k.toNat ≤ sizeLine then .ok (.str ⟨(List.replicate k.toNat x.cps.toList).flatten.toArray⟩) h else .stuck
  | .ref i, .int k, h => match mutAt h i with
    | some xs => if -(2 ^ 63) ≤ k ∧ k < 2 ^ 63 ∧ xs.length * k.toNat ≤ sizeLine then .ok (.ref h.length) (h ++ [.lst (List.replicate k.toNat xs).flatten]) else .stuck
    | none => .stuck
  | _, _, _ => .stuck
theorem fold_app (k : Nat) (a : Array Nat) : ∀ acc : Array Nat, ((List.replicate k a).foldl (· ++ ·) acc).toList = acc.toList ++ (List.replicate k a.toList).flatten := by
  induction k with
  | zero => intro acc; simp
  | succ k ih =>
    intro acc
    rw [List.replicate_succ, List.foldl_cons, ih, List.replicate_succ, List.flatten_cons]
    simp
theorem op_rep_str : OpR X (binaryOp .Mult) (fun x y H Q => ∃ z k, x = .str z ∧ y = .int k ∧ (-(2 ^ 63) ≤ k ∧ k < 2 ^ 63 ∧ z.length * k.toNat ≤ sizeLine) ∧ Q (.str ⟨(List.replicate k.toNat z.cps.toList).flatten.toArray⟩) H) := by
  intro pins s σ H x y v u Q I rx ry h
  obtain ⟨z, k, rfl, rfl, ⟨h1, h2, h3⟩, q⟩ := h
  obtain ⟨t, rfl⟩ := rx
  obtain ⟨t', rfl⟩ := ry
  have line : (sizeLine : Nat) = 16777216 := sizeLine_eq
  have fin : ∀ (x : Str) (tk : Tok) (s' : Shared), Inv X pins σ H s' → x = ⟨(List.replicate k.toNat z.cps.toList).flatten.toArray⟩ → EP X pins σ Q (.str x tk) s' := fun x tk s' I' e => ⟨.str x, H, I', ⟨tk, rfl⟩, by rw [e]; exact q⟩
  refine PySem.P.mul_str ?_ ?_ ?_ ?_
  · rw [Bool.or_eq_false_iff]
    exact ⟨decide_eq_false (by omega), decide_eq_false (by omega)⟩
  · intro g1 g2 g3
    have k1 : 1 ≤ k := by omega
    have := Int.ediv_lt_of_lt_mul (show (0 : Int) < k by omega) (show (2 ^ 63 - 1 : Int) < ((2 ^ 63 - 1) / k + 1) * k by
      have := Int.emod_add_mul_ediv (2 ^ 63 - 1) k
      have := Int.emod_lt_of_pos (2 ^ 63 - 1) (show (0 : Int) < k by omega)
      rw [Int.add_mul, Int.one_mul, Int.mul_comm]
      omega)
    have z1 : (z.length : Int) * k ≤ 16777216 := by
      have : ((z.length * k.toNat : Nat) : Int) ≤ 16777216 := by omega
      rw [Int.natCast_mul] at this
      rw [Int.toNat_of_nonneg (by omega)] at this
      exact this
    have z2 : (z.length : Int) ≤ (2 ^ 63 - 1) / k := Int.le_ediv_of_mul_le (by omega) (by omega)
    omega
  · intro g1 g2
    exact decide_eq_false (show ¬ _ > _ by omega)
  · by_cases g1 : k < 1
    · rw [if_pos g1]
      refine ⟨by decide, fin _ _ _ (I.tok _) ?_⟩
      rw [show k.toNat = 0 by omega]
      rfl
    · rw [if_neg g1]
      by_cases g2 : (k == 1 || z.length == 0) = true
      · rw [if_pos g2]
        refine fin _ _ _ I ?_
        rcases Bool.or_eq_true_iff.mp g2 with g | g
        · have : k = 1 := by simpa using g
          subst this
          obtain ⟨⟨l⟩⟩ := z
          simp
        · have g0 : z.length = 0 := by simpa using g
          obtain ⟨⟨l⟩⟩ := z
          have : l = [] := List.eq_nil_of_length_eq_zero (by simpa [Str.length] using g0)
          subst this
          simp
      · rw [if_neg g2]
        refine ⟨?_, fin _ _ _ (I.tok _) ?_⟩
        · have e := congrArg List.length (fold_app k.toNat z.cps #[])
          simp only [Array.toList_empty, List.nil_append, List.length_flatten, List.map_replicate, List.sum_replicate_nat, Array.length_toList] at e
          show Array.size _ ≤ _
          rw [e, Nat.mul_comm]
          exact h3
        · have e := fold_app k.toNat z.cps #[]
          simp only [Array.toList_empty, List.nil_append] at e
          rw [← e]
theorem os_mul : OpS X Wx (binaryOp .Mult) bMul := .of (op_mulW.or (op_rep_str.or op_rep)) fun σ b h x y x' y' Q S r1 r2 q => by
  unfold bMul at q
  split at q
  · cases r1; cases r2
    split at q
    · rename_i hz; exact .inl ⟨_, _, rfl, rfl, hz, q.here S (.int _)⟩
    · exact q.elim
  · cases r1; cases r2
    split at q
    · rename_i hz; exact .inr (.inl ⟨_, _, rfl, rfl, hz, q.here S (.str _)⟩)
    · exact q.elim
  · cases r1; cases r2
    split at q
    · rename_i xs e1
      split at q
      · rename_i hz
        obtain ⟨vs, a1, a2, a3⟩ := S.mut e1
        have rr : ∀ n : Nat, Rls X.K b (List.replicate n xs).flatten (List.replicate n vs).flatten := fun n => by
          induction n with
          | zero => exact .nil
          | succ n ih => rw [List.replicate_succ, List.replicate_succ, List.flatten_cons, List.flatten_cons]; exact a2.append ih
        exact .inr (.inr ⟨_, _, vs, rfl, rfl, a1, hz.1, hz.2.1, by rw [← a2.length]; exact hz.2.2, fun p hp => Post.lst S (rr _) q hp⟩)
      · exact q.elim
    · exact q.elim
  · exact q.elim
/-- //, %: by a positive int -/
def bDiv : W → W → MH → R W := iOp (fun _ j => decide (0 < j ∧ j.natAbs.log2 < 9000)) fun i j => .int (i / j)
theorem os_div : OpS X Wx (binaryOp .FloorDiv) bDiv := os_int op_fdivW (fun i j h => of_decide_eq_true (p := 0 < j ∧ j.natAbs.log2 < 9000) h) fun i j b => .int _
def bMod : W → W → MH → R W := iOp (fun _ j => decide (0 < j)) fun i j => .int (i % j)
theorem os_mod : OpS X Wx (binaryOp .Mod) bMod := os_int op_mod (fun i j h => of_decide_eq_true (p := 0 < j) h) fun i j b => .int _
def bPow : W → W → MH → R W := iOp (fun i j => decide (0 ≤ j ∧ j ≤ 1000000 ∧ i.natAbs < 2 ^ 64)) fun i j => .int (i ^ j.toNat)
theorem os_pow : OpS X Wx (binaryOp .Pow) bPow := os_int op_pow (fun i j h => of_decide_eq_true (p := 0 ≤ j ∧ j ≤ 1000000 ∧ i.natAbs < 2 ^ 64) h) fun i j b => .int _
/-! ### order -/
def bLt : W → W → MH → R W
  | .int i, .int j, h => .ok (.bl (decide (i < j))) h
  | .str x, .str y, h => .ok (.bl (decide (x.cps.toList < y.cps.toList))) h
  | _, _, _ => .stuck
def bLe : W → W → MH → R W
  | .int i, .int j, h => .ok (.bl (decide (i ≤ j))) h
  | .str x, .str y, h => .ok (.bl (!decide (y.cps.toList < x.cps.toList))) h
  | _, _, _ => .stuck
def bGt : W → W → MH → R W
  | .int i, .int j, h => .ok (.bl (decide (j < i))) h
  | _, _, _ => .stuck
def bGe : W → W → MH → R W
  | .int i, .int j, h => .ok (.bl (decide (j ≤ i))) h
  | _, _, _ => .stuck
theorem os_lt : OpS X Wx (compareOp .Lt) bLt := .of (op_lt.or op_lt_str) fun σ b h x y x' y' Q S r1 r2 q => by
  unfold bLt at q
  split at q
  · cases r1; cases r2; exact .inl ⟨_, _, rfl, rfl, q.here S (.bl _)⟩
  · cases r1; cases r2; exact .inr ⟨_, _, rfl, rfl, q.here S (.bl _)⟩
  · exact q.elim
theorem os_le : OpS X Wx (compareOp .LtE) bLe := .of (op_le.or op_le_str) fun σ b h x y x' y' Q S r1 r2 q => by
  unfold bLe at q
  split at q
  · cases r1; cases r2; exact .inl ⟨_, _, rfl, rfl, q.here S (.bl _)⟩
  · cases r1; cases r2; exact .inr ⟨_, _, rfl, rfl, q.here S (.bl _)⟩
  · exact q.elim
theorem os_gt : OpS X Wx (compareOp .Gt) bGt := .of op_gt fun σ b h x y x' y' Q S r1 r2 q => by
  unfold bGt at q
  split at q
  · cases r1; cases r2; exact ⟨_, _, rfl, rfl, q.here S (.bl _)⟩
  · exact q.elim
theorem os_ge : OpS X Wx (compareOp .GtE) bGe := .of op_ge fun σ b h x y x' y' Q S r1 r2 q => by
  unfold bGe at q
  split at q
  · cases r1; cases r2; exact ⟨_, _, rfl, rfl, q.here S (.bl _)⟩
  · exact q.elim
end
end PM
/-! Sm9: data, == and repr; is, in; subscripts, slices; built-ins. -/
namespace PM
open PySem PySem.Spec L2
open PyProof.Rows hiding St
/-! ### data -/
def mapO {α β : Type} (f : α → Option β) : List α → Option (List β)
  | [] => some []
  | x :: xs => (f x).bind fun y => (mapO f xs).bind fun ys => some (y :: ys)
/-- data without dicts, of nesting below the first argument -/
def dataW (h : MH) : Nat → W → Option PyData
  | _, .non => some .none
  | _, .bl k => some (.bool k)
  | _, .int i => some (.int i)
  | _, .str x => some (.str x)
  | 0, _ => none
  | n + 1, .tup xs => (mapO (dataW h n) xs).map .tuple
  | n + 1, .ref i => (lstAt h i).bind fun xs => (mapO (dataW h n) xs).map .list
  | _, _ => none
theorem dpAll_of {K : PySem.W.Frag} {b : Bs} {f : W → Option PyData} (ih : ∀ w v d, f w = some d → Rl K b w v → Dp K b.H v d) : ∀ {ws : List W} {vs : List V} {ds : List PyData}, mapO f ws = some ds → Rls K b ws vs → DpAll K b.H vs ds
  | [], _, _, e, .nil => by cases e; exact .nil
  | w :: ws, _, ds, e, .cons r rr => by
    unfold mapO at e
    cases e1 : f w with
    | none => rw [e1] at e; cases e
    | some d =>
      rw [e1] at e
      cases e2 : mapO f ws with
      | none => rw [e2] at e; cases e
      | some es => rw [e2] at e; cases e; exact .cons (ih _ _ _ e1 r) (dpAll_of ih e2 rr)
theorem dp_of {K : PySem.W.Frag} {b : Bs} {h : MH} (S : Sim K b h) : ∀ (n : Nat) (w : W) (v : V) (d : PyData), dataW h n w = some d → Rl K b w v → Dp K b.H v d := by
  intro n
  induction n with
  | zero =>
    intro w v d e r
    cases r <;> first | (simp [dataW] at e; done) | (simp only [dataW, Option.some.injEq] at e; subst e; constructor)
  | succ n ih =>
    intro w v d e r
    cases r with
    | tup a ws vs hs rr =>
      simp only [dataW, Option.map_eq_some_iff] at e
      obtain ⟨ds, e, rfl⟩ := e
      exact .tup hs (dpAll_of ih e rr)
    | ref i hi =>
      simp only [dataW] at e
      cases el : lstAt h i with
      | none => rw [el] at e; cases e
      | some xs =>
        rw [el] at e
        simp only [Option.bind_some, Option.map_eq_some_iff] at e
        obtain ⟨ds, e, rfl⟩ := e
        obtain ⟨vs, h1, rr, _⟩ := S.list el
        exact .lst h1 (dpAll_of ih e rr)
    | _ => first | (simp [dataW] at e; done) | (simp only [dataW, Option.some.injEq] at e; subst e; constructor)
/-- flat things of kinds that the layer's == takes -/
def eqFlat : W → W → Option Bool
  | .non, .non => some true
  | .bl a, .bl b => some (a == b)
  | .int a, .int b => some (a == b)
  | .str a, .str b => some (a == b)
  | .non, .int _ => some false
  | .int _, .non => some false
  | .non, .bl _ => some false
  | .bl _, .non => some false
  | .non, .str _ => some false
  | .str _, .non => some false
  | .int _, .str _ => some false
  | .str _, .int _ => some false
  | .bl _, .str _ => some false
  | .str _, .bl _ => some false
  | _, _ => none
theorem eqFlat_ok {K : PySem.W.Frag} {b : Bs} {x y : W} {x' y' : V} {r : Bool} (r1 : Rl K b x x') (r2 : Rl K b y y') (e : eqFlat x y = some r) : scal x' y' = true ∧ decide (x' = y') = r := by
  cases r1 <;> cases r2 <;> first | cases e | skip
  all_goals refine ⟨rfl, ?_⟩
  all_goals first | rfl | (simp; done) | exact dec_int | exact dec_bl | exact dec_str
/-- ==, != of flat things, of data -/
def bEq : W → W → MH → R W := fun x y h => match eqFlat x y with
  | some r => .ok (.bl r) h
  | none => match dataW h 20 x, dataW h 20 y with
    | some d, some e => if SeqAt.shaped d = true ∧ SeqAt.shaped e = true then .ok (.bl (PyData.eqv d e)) h else .stuck
    | _, _ => .stuck
def bNe : W → W → MH → R W := fun x y h => match eqFlat x y with
  | some r => .ok (.bl (!r)) h
  | none => match dataW h 20 x, dataW h 20 y with
    | some d, some e => if SeqAt.shaped d = true ∧ SeqAt.shaped e = true then .ok (.bl (!PyData.eqv d e)) h else .stuck
    | _, _ => .stuck
section
variable {X : Cx} {Wx : WX} {k : Nat}
theorem os_eq (hr : Room k X.A) : OpS X Wx (compareOp .Eq) bEq := .of (op_eq.or (op_eqD hr.units)) fun σ b h x y x' y' Q S r1 r2 q => by
  unfold bEq at q
  split at q
  · rename_i r e
    obtain ⟨e1, e2⟩ := eqFlat_ok r1 r2 e
    exact .inl ⟨e1, by rw [e2]; exact q.here S (.bl _)⟩
  · split at q
    · rename_i d e h1 h2
      split at q
      · rename_i hz; exact .inr ⟨d, e, dp_of S _ _ _ _ h1 r1, dp_of S _ _ _ _ h2 r2, hz.1, hz.2, q.here S (.bl _)⟩
      · exact q.elim
    · exact q.elim
theorem os_ne (hr : Room k X.A) : OpS X Wx (compareOp .NotEq) bNe := .of (op_ne.or (op_neD hr.units)) fun σ b h x y x' y' Q S r1 r2 q => by
  unfold bNe at q
  split at q
  · rename_i r e
    obtain ⟨e1, e2⟩ := eqFlat_ok r1 r2 e
    exact .inl ⟨e1, by rw [e2]; exact q.here S (.bl _)⟩
  · split at q
    · rename_i d e h1 h2
      split at q
      · rename_i hz; exact .inr ⟨d, e, dp_of S _ _ _ _ h1 r1, dp_of S _ _ _ _ h2 r2, hz.1, hz.2, q.here S (.bl _)⟩
      · exact q.elim
    · exact q.elim
/-! ### is -/
def isV : W → W → Option Bool
  | .non, .non => some true
  | .bl a, .bl b => some (decide (a = b))
  | .non, _ => none
  | _, .non => some false
  | _, _ => none
def bIs : W → W → MH → R W := fun x y h => match isV x y with
  | some k => .ok (.bl k) h
  | none => .stuck
def bNot : W → W → MH → R W := fun x y h => match isV x y with
  | some k => .ok (.bl (!k)) h
  | none => .stuck
theorem os_is : OpS X Wx (compareOp .Is) bIs := .of (op_isN.or op_isBl) fun σ b h x y x' y' Q S r1 r2 q => by
  unfold bIs at q
  cases r1 <;> cases r2 <;> first | exact q.elim | (first | exact .inl ⟨rfl, q.here S (.bl _)⟩ | exact .inr ⟨_, _, rfl, rfl, q.here S (.bl _)⟩)
theorem os_isnot : OpS X Wx (compareOp .IsNot) bNot := .of (op_notN.or op_notBl) fun σ b h x y x' y' Q S r1 r2 q => by
  unfold bNot at q
  cases r1 <;> cases r2 <;> first | exact q.elim | (first | exact .inl ⟨rfl, q.here S (.bl _)⟩ | exact .inr ⟨_, _, rfl, rfl, q.here S (.bl _)⟩)
/-! ### in: a sign in a text; a flat thing in a list or a tuple -/
def flatW : W → Bool
  | .non => true
  | .bl _ => true
  | .int _ => true
  | .str _ => true
  | _ => false
def eqW : W → W → Bool
  | .non, .non => true
  | .bl a, .bl b => a == b
  | .bl a, .int b => (if a then 1 else 0) == b
  | .int a, .bl b => a == (if b then 1 else 0)
  | .int a, .int b => a == b
  | .str a, .str b => a == b
  | _, _ => false
def inW (x : W) (xs : List W) : Bool := xs.any fun y => eqW y x
theorem flat_of {K : PySem.W.Frag} {b : Bs} {w : W} {v : V} (r : Rl K b w v) (h : flatW w = true) : flatV v = true := by
  cases r <;> first | rfl | cases h
theorem eq_of {K : PySem.W.Frag} {b : Bs} {w x : W} {v y : V} (r : Rl K b w v) (s : Rl K b x y) (h : flatW w = true) (g : flatW x = true) : eqV v y = eqW w x := by
  cases r <;> first | exact absurd h Bool.false_ne_true | (cases s <;> first | exact absurd g Bool.false_ne_true | rfl)
theorem flats_of {K : PySem.W.Frag} {b : Bs} : ∀ {ws : List W} {vs : List V}, Rls K b ws vs → ws.all flatW = true → vs.all flatV = true
  | _, _, .nil, _ => rfl
  | _, _, .cons r rr, h => by
    simp only [List.all_cons, Bool.and_eq_true] at h ⊢
    exact ⟨flat_of r h.1, flats_of rr h.2⟩
theorem in_of {K : PySem.W.Frag} {b : Bs} {x : W} {y : V} (s : Rl K b x y) (g : flatW x = true) : ∀ {ws : List W} {vs : List V}, Rls K b ws vs → ws.all flatW = true → inV y vs = inW x ws
  | _, _, .nil, _ => rfl
  | _, _, .cons r rr, h => by
    simp only [List.all_cons, Bool.and_eq_true] at h
    have ih := in_of s g rr h.2
    unfold inV inW at *
    rw [List.any_cons, List.any_cons, ih, eq_of r s h.1 g]
def seqAt (y : W) (h : MH) : Option (List W) := match y with
  | .ref i => lstAt h i
  | .tup xs => some xs
  | _ => none
theorem Sim.seq {K : PySem.W.Frag} {b : Bs} {h : MH} {y : W} {v : V} {xs : List W} (S : Sim K b h) (r : Rl K b y v) (e : seqAt y h = some xs) : ∃ p vs, v = .ref p ∧ (SqL K b.H p vs ∨ SqT K b.H p vs) ∧ Rls K b xs vs := by
  cases r with
  | ref i hi =>
    obtain ⟨vs, h1, rr, _⟩ := S.list (show lstAt h i = some xs from e)
    exact ⟨_, vs, rfl, .inl h1, rr⟩
  | tup a ws vs hs rr =>
    cases (show some ws = some xs from e)
    exact ⟨a, vs, rfl, .inr hs, rr⟩
  | _ => cases e
def inG (neg : Bool) (x y : W) (h : MH) : R W := match x, y with
  | .str c, .str z => if c.length = 1 then .ok (.bl (if neg then !decide (c.cps.toList.headD 0 ∈ z.cps.toList) else decide (c.cps.toList.headD 0 ∈ z.cps.toList))) h else .stuck
  | x, y => match seqAt y h with
    | some xs => if flatW x = true ∧ xs.all flatW = true then .ok (.bl (if neg then !inW x xs else inW x xs)) h else .stuck
    | none => .stuck
theorem sign_of {c : Str} (h : c.length = 1) : c = ⟨#[c.cps.toList.headD 0]⟩ := by
  obtain ⟨⟨l⟩⟩ := c
  match l, (show l.length = 1 from h) with
  | [a], _ => rfl
theorem in_read {K : PySem.W.Frag} {We : Value → Option Addr → Hp → Prop} {neg : Bool} {b : Bs} {h : MH} {x y : W} {x' y' : V} {Q : VK} (S : Sim K b h) (r1 : Rl K b x x') (r2 : Rl K b y y') (q : Post K (Rl K) We b Q (inG neg x y h)) :
    (∃ (c : Nat) (z : Str), x' = .str ⟨#[c]⟩ ∧ y' = .str z ∧ Q (.bl (if neg then !decide (c ∈ z.cps.toList) else decide (c ∈ z.cps.toList))) b.H) ∨ rIn K neg x' y' b.H Q := by
  unfold inG at q
  split at q
  · rename_i c z
    cases r1; cases r2
    split at q
    · rename_i hz
      exact .inl ⟨_, z, by rw [← sign_of hz], rfl, q.here S (.bl _)⟩
    · exact q.elim
  · split at q
    · rename_i xs e
      split at q
      · rename_i hz
        obtain ⟨p, vs, rfl, hs, rr⟩ := S.seq r2 e
        refine .inr ⟨p, vs, rfl, hs, flat_of r1 hz.1, flats_of rr hz.2, ?_⟩
        rw [in_of r1 hz.1 rr hz.2]
        exact q.here S (.bl _)
      · exact q.elim
    · exact q.elim
theorem os_in : OpS X Wx (compareOp .In) (inG false) := .of (op_in_sign.or op_in_seq) fun σ b h x y x' y' Q S r1 r2 q => in_read S r1 r2 q
theorem os_notin : OpS X Wx (compareOp .NotIn) (inG true) := .of (op_notIn_sign.or op_notIn_seq) fun σ b h x y x' y' Q S r1 r2 q => in_read S r1 r2 q
/-! ### subscripts -/
theorem atI_rel {K : PySem.W.Frag} {b : Bs} {ws : List W} {vs : List V} {i : Int} {w : W} (r : Rls K b ws vs) (e : atI ws i = some w) : ∃ v, atI vs i = some v ∧ Rl K b w v := by
  unfold atI at *
  rw [← r.length]
  cases e2 : ixN ws.length i with
  | none => rw [e2] at e; cases e
  | some j => rw [e2] at e; exact r.get e
def bIx : W → W → MH → R W := fun x y h => match x, y with
  | .str z, .int i => if z.length ≤ sizeLine then match atI z.cps.toList i with
    | some c => .ok (.str ⟨#[c]⟩) h
    | none => .stuck else .stuck
  | x, .int i => match (seqAt x h).bind fun xs => atI xs i with
    | some w => .ok w h
    | none => .stuck
  | _, _ => .stuck
variable {a c e : Expr} {ma mc me : EM} {pos : Pos}
theorem se_ix (ha : SE X Wx a ma) (hc : SE X Wx c mc) (hs : PlainIx c := by exact fun _ _ => rfl) : SE X Wx (.Subscript a c pos) (e2 bIx ma mc) := by
  refine ⟨pe_imp (pe_ix (ix_list.or (ix_tup.or ix_str)) ha.pe hc.pe hs) fun σ H Q ⟨b, h, σm, eH, S, l, q⟩ => ?_⟩
  subst eH
  refine ⟨b, h, σm, rfl, S, l, (Post.bind (rel := Rl X.K) q).mono fun x' H1 ⟨c1, x, h1, eH, E1, S1, r1, q1⟩ => ?_⟩
  subst eH
  refine ⟨c1, h1, σm, rfl, S1, l.ext E1, (Post.bind (rel := Rl X.K) q1).mono fun y' H2 ⟨c2, y, h2, eH, E2, S2, r2, q2⟩ => ?_⟩
  subst eH
  have r1 := r1.ext E2
  unfold bIx at q2
  split at q2
  · cases r1; cases r2
    split at q2
    · rename_i hz
      split at q2
      · rename_i c' hc'; exact .inr (.inr ⟨_, _, c', rfl, rfl, hz, hc', q2.here S2 (.str _)⟩)
      · exact q2.elim
    · exact q2.elim
  · cases r2
    split at q2
    · rename_i w hw
      cases es : seqAt x h2 with
      | none => rw [es] at hw; cases hw
      | some xs =>
        rw [es] at hw
        obtain ⟨p, vs, rfl, hs, rr⟩ := S2.seq r1 es
        obtain ⟨v, hv, rv⟩ := atI_rel rr hw
        rcases hs with hs | hs
        · exact .inl ⟨p, vs, _, v, rfl, rfl, hs, hv, q2.here S2 rv⟩
        · exact .inr (.inl ⟨p, vs, _, v, rfl, rfl, hs, hv, q2.here S2 rv⟩)
    · exact q2.elim
  · exact q2.elim
/-! ### slices -/
abbrev OM := MS → MH → R (Option Int)
def oNo : OM := fun _ h => .ok none h
def oSome (m : EM) : OM := fun σ h => (m σ h).bind fun w h1 => match w with
  | .int i => .ok (some i) h1
  | _ => .stuck
abbrev rEqO : Bs → Option Int → Option Int → Prop := fun _ a b => a = b
def tSimO (K : PySem.W.Frag) (Wx : WX) (m : OM) : TO := fun σ H Q => ∃ (b : Bs) (h : MH) (σm : MS), b.H = H ∧ Sim K b h ∧ SlM K b σm σ ∧ Post K rEqO (fun c d H' => Wx c d σ H') b Q (m σm h)
structure SO (X : Cx) (Wx : WX) (e : Option Expr) (m : OM) : Prop where
  po : PO X e (tSimO X.K Wx m)
theorem po_imp {e : Option Expr} {t u : TO} (h : PO X e t) (m : ∀ σ H Q, u σ H Q → t σ H Q) : PO X e u := ⟨fun pins s σ H Q I q => h.run pins s σ H Q I (m _ _ _ q)⟩
theorem so_none : SO X Wx none oNo := ⟨po_imp po_none fun σ H Q ⟨b, h, σm, e, S, l, q⟩ => by subst e; exact q.here S rfl⟩
theorem so_some (ha : SE X Wx a ma) : SO X Wx (some a) (oSome ma) := ⟨po_imp (po_some ha.pe) fun σ H Q ⟨b, h, σm, e, S, l, q⟩ => by
  refine ⟨b, h, σm, e, S, l, (Post.bind (rel := Rl X.K) q).mono fun x' H1 ⟨c1, x, h1, eH, E1, S1, r1, q1⟩ => ?_⟩
  subst eH
  cases r1 <;> first | exact q1.elim | exact ⟨_, rfl, q1.here S1 rfl⟩⟩
theorem SlR.or' {r r' : V → Option Int → Option Int → Hp → VK → Prop} (a : L2.SlR X r) (c : L2.SlR X r') : L2.SlR X (fun x lo hi H Q => r x lo hi H Q ∨ r' x lo hi H Q) := by
  intro pins s σ H x v vl vu lo hi sl Q I rx hs pl pu q
  rcases q with q | q
  · exact a pins s σ H x v vl vu lo hi sl Q I rx hs pl pu q
  · exact c pins s σ H x v vl vu lo hi sl Q I rx hs pl pu q
def cutW (xs : List W) (lo hi : Option Int) : List W := (xs.drop (HT.sIx xs.length 0 lo)).take (HT.sIx xs.length xs.length hi - HT.sIx xs.length 0 lo)
def bSl (x : W) (lo hi : Option Int) (h : MH) : R W := match x with
  | .str z => if z.length ≤ sizeLine then .ok (.str (cutS z lo hi)) h else .stuck
  | .ref i => match lstAt h i with
    | some xs => .ok (.ref h.length) (h ++ [.lst (cutW xs lo hi)])
    | none => .stuck
  | .tup ws => if HT.sIx ws.length 0 lo = 0 ∧ HT.sIx ws.length ws.length hi = ws.length then .stuck else .ok (.tup (cutW ws lo hi)) h
  | _ => .stuck
def eSl (m : EM) (lo hi : OM) : EM := fun σ h => (m σ h).bind fun x h1 => (lo σ h1).bind fun l h2 => (hi σ h2).bind fun u h3 => bSl x l u h3
theorem cut_rel {K : PySem.W.Frag} {b : Bs} {ws : List W} {vs : List V} {lo hi : Option Int} (r : Rls K b ws vs) : Rls K b (cutW ws lo hi) (cutV vs lo hi) := by
  unfold cutW cutV
  rw [r.length]
  exact (r.drop _).take _
theorem se_sl {lo hi : Option Expr} {ml mh : OM} {p2 : Pos} (ha : SE X Wx a ma) (hl : SO X Wx lo ml) (hh : SO X Wx hi mh) : SE X Wx (.Subscript a (.Slice lo hi none p2) pos) (eSl ma ml mh) := by
  refine ⟨pe_imp (pe_slice (SlR.or' sl_str (SlR.or' sl_list sl_tup)) ha.pe hl.po hh.po) fun σ H Q ⟨b, h, σm, eH, S, l, q⟩ => ?_⟩
  subst eH
  refine ⟨b, h, σm, rfl, S, l, (Post.bind (rel := Rl X.K) q).mono fun x' H1 ⟨c1, x, h1, eH, E1, S1, r1, q1⟩ => ?_⟩
  subst eH
  refine ⟨c1, h1, σm, rfl, S1, l.ext E1, (Post.bind (rel := rEqO) q1).mono fun y' H2 ⟨c2, y, h2, eH, E2, S2, r2, q2⟩ => ?_⟩
  subst eH; subst r2
  refine ⟨c2, h2, σm, rfl, S2, (l.ext E1).ext E2, (Post.bind (rel := rEqO) q2).mono fun z' H3 ⟨c3, z, h3, eH, E3, S3, r3, q3⟩ => ?_⟩
  subst eH; subst r3
  have r1 := (r1.ext E2).ext E3
  unfold bSl at q3
  cases r1 with
  | str x =>
    dsimp only at q3
    split at q3
    · rename_i hz; exact .inl ⟨x, rfl, hz, q3.here S3 (.str _)⟩
    · exact q3.elim
  | ref i hi =>
    dsimp only at q3
    split at q3
    · rename_i xs hx
      obtain ⟨vs, a1, rr, _⟩ := S3.list hx
      exact .inr (.inl ⟨_, vs, rfl, a1, fun p hp => Post.lst S3 (cut_rel rr) q3 hp⟩)
    · exact q3.elim
  | tup p ws vs hs rr =>
    dsimp only at q3
    split at q3
    · exact q3.elim
    · rename_i hz
      refine .inr (.inr ⟨p, vs, rfl, hs, by rw [← rr.length]; exact hz, fun p hp => Post.tup S3 (cut_rel rr) q3 hp⟩)
  | _ => exact q3.elim
/-! ### xs[i] = v -/
def sSetIx (mo mi mv : EM) : SM := fun σ h => (mv σ h).st σ fun v h1 => (mo σ h1).st σ fun o h2 => (mi σ h2).st σ fun i h3 => match o, i with
  | .ref j, .int k => match mutAt h3 j with
    | some xs => match ixN xs.length k with
      | some n => .nx σ (h3.set j (.lst (xs.set n v)))
      | none => .stuck
    | none => .stuck
  | _, _ => .stuck
theorem ss_setIx (ho : SE X Wx a ma) (hi : SE X Wx c mc) (he : SE X Wx e me) (hs : swapsWithSole [.Subscript a c pos] e pos'.line X.env = pure false := by rfl) (hw : swappedStores [.Subscript a c pos] e X.env = pure none := by rfl)
    (h1 : (assignEach [.Subscript a c pos] X.env).map (·.2) = [assign (.Subscript a c pos) X.env] := by rfl)
    (hx : ∀ v, assign (.Subscript a c pos) X.env v = (do
      let ov ← holding [v] (eval a X.env)
      let iv ← holding [v, ov] (eval c X.env)
      standAt pos
      holding [v, ov, iv] (setItem ov iv v)
      release [v, ov, iv] []) := by intro _; rfl) : SS X Wx (.Assign [.Subscript a c pos] e pos') (sSetIx ma mc me) := by
  refine ⟨ps_imp (ps_asg he.pe (pg_sub ho.pe hi.pe set_list hx) hs hw h1) fun D σ H ⟨b, h, σm, eH, S, l, q⟩ => ?_⟩
  refine ⟨b, h, σm, eH, S, l, (PostS.st (rel := Rl X.K) l q).mono fun v H1 ⟨c1, w, g1, e1, x1, s1, r1, p1⟩ => ?_⟩
  refine ⟨c1, g1, σm, e1, s1, l.ext x1, (PostS.st (rel := Rl X.K) (l.ext x1) p1).mono fun o H2 ⟨c2, wo, g2, e2, x2, s2, r2, p2⟩ => ?_⟩
  refine ⟨c2, g2, σm, e2, s2, (l.ext x1).ext x2, (PostS.st (rel := Rl X.K) ((l.ext x1).ext x2) p2).mono fun i H3 ⟨c3, wi, g3, e3, x3, s3, r3, p3⟩ => ?_⟩
  subst e3
  have r2 := r2.ext x3
  split at p3
  · cases r2; cases r3
    split at p3
    · rename_i xs hx
      split at p3
      · rename_i n hn
        obtain ⟨vs, a1, rr, _⟩ := s3.mut hx
        obtain ⟨x4, s4⟩ := s3.putL hx (rr.set n ((r1.ext x2).ext x3))
        exact ⟨_, vs, _, n, rfl, rfl, a1, by rw [← rr.length]; exact hn, p3 _ σ x4 s4 (((l.ext x1).ext x2).ext x3 |>.ext x4)⟩
      · exact p3.elim
    · exact p3.elim
  · exact p3.elim
end
end PM
/-! Sm10: built-in functions and methods. -/
namespace PM
open PySem PySem.Spec L2
open PyProof.Rows hiding St
section
variable {X : Cx} {Wx : WX} {k : Nat}
/-- a constant of the module; a built-in type as a value -/
theorem se_glob {x : Str} {w : W} {v : V} {u : Value} {pos : Pos} (hg : Gl X x) (hm : X.mg x = some u) (r : RelV v u) (hr : ∀ b, Rl X.K b w v) (hd : (x == ("__debug__" : Str)) = false := by decide) : SE X Wx (.Name x pos) (eC w) := se_c hr (pe_glob hg hm r hd)
theorem se_type {x : Str} {n : String} {pos : Pos} (hg : Gl X x) (hm : X.mg x = none) (hv : bootBuiltins x = some (.type n)) (hn : x ≠ "__name__" := by decide) (hd : (x == ("__debug__" : Str)) = false := by decide) : SE X Wx (.Name x pos) (eC (.ty n)) :=
  se_c (fun _ => .ty n) (pe_bltn hg hm hv rfl hn hd)
/-! ### len -/
def lenW (w : W) (h : MH) : Option Nat := match w with
  | .str x => if x.length ≤ sizeLine then some x.length else none
  | .tup xs => some xs.length
  | .ref i => match lstAt h i with
    | some xs => some xs.length
    | none => match h[i]? with
      | some (.dct kvs) => some kvs.length
      | _ => none
  | _ => none
def bLen (ws : List W) (h : MH) : R W := match ws with
  | [w] => match lenW w h with
    | some n => .ok (.int n) h
    | none => .stuck
  | _ => .stuck
theorem rls1 {K : PySem.W.Frag} {b : Bs} {w : W} {vs : List V} (r : Rls K b [w] vs) : ∃ v, vs = [v] ∧ Rl K b w v := by
  cases r with
  | cons r rr => cases rr; exact ⟨_, rfl, r⟩
theorem rls2 {K : PySem.W.Frag} {b : Bs} {w x : W} {vs : List V} (r : Rls K b [w, x] vs) : ∃ v y, vs = [v, y] ∧ Rl K b w v ∧ Rl K b x y := by
  cases r with
  | cons r rr =>
    obtain ⟨y, rfl, r2⟩ := rls1 rr
    exact ⟨_, y, rfl, r, r2⟩
theorem callR_or {f : Value} {r r' : List V → Hp → VK → Prop} (a : CallR X f r) (c : CallR X f r') : CallR X f (fun xs H Q => r xs H Q ∨ r' xs H Q) := by
  intro pins s σ H xs us Q I rr q
  rcases q with q | q
  · exact a pins s σ H xs us Q I rr q
  · exact c pins s σ H xs us Q I rr q
theorem cs_len : CallS X Wx (.builtin "len") bLen := .of (callR_or call_len call_lenD) fun σ b h ws vs Q S r q => by
  unfold bLen at q
  split at q
  · rename_i w
    obtain ⟨v, rfl, r1⟩ := rls1 r
    split at q
    · rename_i n hn
      unfold lenW at hn
      cases r1 with
      | str x =>
        dsimp only at hn
        split at hn
        · rename_i hz; cases hn; exact .inl ⟨_, _, rfl, ⟨hz, rfl⟩, q.here S (.int _)⟩
        · cases hn
      | tup a ws us hs rr => cases hn; exact .inl ⟨_, _, rfl, .inr ⟨us, hs, rr.length⟩, q.here S (.int _)⟩
      | ref i hi =>
        dsimp only at hn
        split at hn
        · rename_i xs hx
          cases hn
          obtain ⟨us, h1, rr, _⟩ := S.list hx
          exact .inl ⟨_, _, rfl, .inl ⟨us, h1, rr.length⟩, q.here S (.int _)⟩
        · split at hn
          · rename_i kvs hk
            cases hn
            obtain ⟨ps, h1, rr, _⟩ := S.dict hk
            refine .inr ⟨_, ps, rfl, h1, ?_⟩
            have := congrArg List.length rr.1
            simp only [List.length_map] at this
            rw [this]
            exact q.here S (.int _)
          · cases hn
      | _ => cases hn
    · exact q.elim
  · exact q.elim
/-! ### isinstance, of built-in types -/
def tyB (w : W) (h : MH) : Option String := match w with
  | .non => some "NoneType"
  | .bl _ => some "bool"
  | .int _ => some "int"
  | .str _ => some "str"
  | .tup _ => some "tuple"
  | .ref i => match lstAt h i with
    | some _ => some "list"
    | none => match h[i]? with
      | some (.dct _) => some "dict"
      | some (.rod _) => some "dict"
      | _ => none
  | _ => none
theorem tyX_of {K : PySem.W.Frag} {b : Bs} {h : MH} {w : W} {v : V} {t : String} (S : Sim K b h) (r : Rl K b w v) (e : tyB w h = some t) : TyX K b.H v (.type t) := by
  unfold tyB at e
  cases r with
  | non => cases e; exact .base .non
  | bl _ => cases e; exact .base (.bl _)
  | int _ => cases e; exact .base (.int _)
  | str _ => cases e; exact .base (.str _)
  | ty _ => cases e
  | glo _ => cases e
  | tup a ws vs hs rr =>
    cases e
    rcases hs with (hs | ⟨o, hs⟩) | ⟨o, its, n, hs, c, _⟩
    · exact .base (.tup hs)
    · exact .fTuple hs
    · exact .kTuple hs c
  | ref i hi =>
    dsimp only at e
    split at e
    · rename_i xs hx
      cases e
      obtain ⟨vs, hs, _⟩ := S.list hx
      rcases hs with (hs | ⟨o, hs⟩) | ⟨o, its, n, hs, c, _⟩
      · exact .base (.lst hs)
      · exact .base (.frz hs)
      · exact .kList hs c
    · split at e
      · rename_i kvs hk
        cases e
        obtain ⟨ps, h1, _⟩ := S.dict hk
        exact .base (.dK h1)
      · rename_i kvs hk
        cases e
        obtain ⟨o, ps, h1, _⟩ := S.ob _ _ hk
        exact .fDict h1
      · cases e
/-- the answers for the types that a program has -/
def isB (a b : String) : Option Bool :=
  if a = b then some true
  else if a ∈ ["NoneType", "bool", "int", "str", "tuple", "list", "dict"] ∧ b ∈ ["NoneType", "bool", "int", "str", "tuple", "list", "dict"] then some (decide (a = "bool" ∧ b = "int"))
  else none
theorem isB_ok {K : PySem.W.Frag} {a b : String} {r : Bool} (h : isB a b = some r) : PySem.W.kitOne K (.type a) (.type b) = some r := by
  apply kit_ty
  unfold isB at h
  split at h
  · rename_i e
    cases h; subst e
    unfold kitB
    rw [if_pos (beq_self_eq_true _)]
  · split at h
    · rename_i hn hm
      cases h
      obtain ⟨h1, h2⟩ := hm
      simp only [List.mem_cons, List.not_mem_nil, or_false] at h1 h2
      rcases h1 with rfl | rfl | rfl | rfl | rfl | rfl | rfl <;> rcases h2 with rfl | rfl | rfl | rfl | rfl | rfl | rfl <;> first | exact absurd rfl hn | decide +kernel
    · cases h
def tysOf : List W → Option (List String)
  | [] => some []
  | .ty n :: r => (tysOf r).map (n :: ·)
  | _ => none
theorem tysOf_ok {K : PySem.W.Frag} {b : Bs} : ∀ {ws : List W} {vs : List V} {ns : List String}, Rls K b ws vs → tysOf ws = some ns → Paired ClsV vs (ns.map Value.type)
  | _, _, ns, .nil, e => by cases e; exact .nil
  | w :: ws, _, ns, .cons r1 rr, e => by
    cases r1 with
    | ty n =>
      simp only [tysOf, Option.map_eq_some_iff] at e
      obtain ⟨ms, e, rfl⟩ := e
      exact .cons (.ty n) (tysOf_ok rr e)
    | _ => cases e
def isAny (t : String) : List String → Option Bool
  | [] => some false
  | n :: r => match isB t n with
    | some true => some true
    | some false => isAny t r
    | none => none
theorem isAny_ok {K : PySem.W.Frag} {t : String} : ∀ {ns : List String} {r : Bool}, isAny t ns = some r → PySem.W.kitAny K (.type t) (ns.map Value.type) = some r
  | [], r, e => by cases e; rfl
  | n :: ns, r, e => by
    unfold isAny at e
    split at e
    · rename_i e1; cases e; exact kitAny_cons (isB_ok e1) (fun z => nomatch z) (fun _ => rfl)
    · rename_i e1; exact kitAny_cons (isB_ok e1) (fun _ => isAny_ok e) (fun z => nomatch z)
    · cases e
def bIsi (ws : List W) (h : MH) : R W := match ws with
  | [w, .ty n] => match (tyB w h).bind fun t => isB t n with
    | some r => .ok (.bl r) h
    | none => .stuck
  | [w, .tup cs] => match (tyB w h).bind fun t => (tysOf cs).bind fun ns => isAny t ns with
    | some r => .ok (.bl r) h
    | none => .stuck
  | _ => .stuck
theorem sqT_K {K : PySem.W.Frag} {H : Hp} {a : Addr} {vs : List V} (h : SqT K H a vs) : H a = some (.tup vs) ∨ (∃ o, H a = some (.frz o (.tup vs))) ∨ ∃ o its n, K.lookup a = some o ∧ o.cls = Value.type "tuple" ∧ o.data = .seq its n ∧ Vals vs its.toList := by
  rcases h with (h | h) | ⟨o, its, n, h1, h2, h3, _, h4⟩
  · exact .inl h
  · exact .inr (.inl h)
  · exact .inr (.inr ⟨o, its, n, h1, h2, h3, h4⟩)
theorem call_isiF : CallR X (.builtin "isinstance") (fun xs H Q => ∃ (x : V) (tp : Addr) (o : Obj) (cs : List V) (t : Value) (us : List Value) (b : Bool), xs = [x, .ref tp] ∧ H tp = some (.frz o (.tup cs)) ∧ Paired ClsV cs us ∧ TyX X.K H x t ∧ PySem.W.kitAny X.K t us = some b ∧ Q (.bl b) H) := by
  intro pins s σ H xs us Q I r h
  obtain ⟨x, tp, ob, cs, t, ws, b, rfl, hT, k, ty, e, q⟩ := h
  obtain ⟨u1, u2, rfl, r1, r2⟩ := vals2 r
  cases (show u2 = Value.ref tp from r2)
  obtain ⟨P, Z, p, hx⟩ := kit_of I r1 ty
  obtain ⟨_, _, its, rv, o, h1, h2, n, h3⟩ := (show ObjOk X.prog X.w H s.heap tp (.frz ob (.tup cs)) from I.hok tp _ hT)
  have e3 := ClsV.all k rv
  subst e3
  obtain ⟨oc, od, dt, sl⟩ := o
  simp only at h2 h3
  subst h2 h3
  exact PySem.W.kia_tup Z I.kIn p h1 e hx fun tk => ⟨.bl b, H, I.tok tk, rfl, q⟩
theorem cs_isi : CallS X Wx (.builtin "isinstance") bIsi := .of (callR_or call_isi (callR_or call_isiT (callR_or call_isiF call_isiK))) fun σ b h ws vs Q S r q => by
  unfold bIsi at q
  split at q
  · rename_i w n
    obtain ⟨v, y, rfl, r1, r2⟩ := rls2 r
    cases r2
    split at q
    · rename_i k hk
      obtain ⟨t, h1, h2⟩ := Option.bind_eq_some_iff.mp hk
      exact .inl ⟨v, _, .type t, .type n, k, rfl, .ty n, tyX_of S r1 h1, isB_ok h2, q.here S (.bl _)⟩
    · exact q.elim
  · rename_i w cs
    obtain ⟨v, y, rfl, r1, r2⟩ := rls2 r
    cases r2 with
    | tup a _ us hs rr =>
      split at q
      · rename_i k hk
        obtain ⟨t, h1, h2⟩ := Option.bind_eq_some_iff.mp hk
        obtain ⟨ns, h2, h3⟩ := Option.bind_eq_some_iff.mp h2
        have p := tysOf_ok rr h2
        have e3 := isAny_ok (K := X.K) h3
        rcases sqT_K hs with hs | ⟨o, hs⟩ | ⟨o, its, n, l1, l2, l3, l4⟩
        · exact .inr (.inl ⟨v, a, us, .type t, _, k, rfl, hs, p, tyX_of S r1 h1, e3, q.here S (.bl _)⟩)
        · exact .inr (.inr (.inl ⟨v, a, o, us, .type t, _, k, rfl, hs, p, tyX_of S r1 h1, e3, q.here S (.bl _)⟩))
        · have e4 := ClsV.all p l4
          obtain ⟨oc, od, dt, sl⟩ := o
          simp only at l2 l3
          subst l2 l3
          refine .inr (.inr (.inr ⟨v, a, od, ns.map Value.type, n, sl, .type t, k, rfl, ?_, tyX_of S r1 h1, e3, q.here S (.bl _)⟩))
          rw [l1, ← e4]
      · exact q.elim
  · exact q.elim
/-! ### all, any of a list of bools -/
def blsOf : List W → Option (List Bool)
  | [] => some []
  | .bl k :: r => (blsOf r).map (k :: ·)
  | _ => none
theorem blsOf_ok {K : PySem.W.Frag} {b : Bs} : ∀ {ws : List W} {vs : List V} {ks : List Bool}, Rls K b ws vs → blsOf ws = some ks → vs = ks.map V.bl
  | _, _, ns, .nil, e => by cases e; rfl
  | w :: ws, _, ns, .cons r1 rr, e => by
    cases r1 with
    | bl k =>
      simp only [blsOf, Option.map_eq_some_iff] at e
      obtain ⟨ms, e, rfl⟩ := e
      rw [blsOf_ok rr e]; rfl
    | _ => cases e
def bAll (f : List Bool → Bool) (ws : List W) (h : MH) : R W := match ws with
  | [.ref i] => match (lstAt h i).bind blsOf with
    | some ks => .ok (.bl (f ks)) h
    | none => .stuck
  | _ => .stuck
theorem bAll_read {K : PySem.W.Frag} {We : Value → Option Addr → Hp → Prop} {f : List Bool → Bool} {b : Bs} {h : MH} {ws : List W} {vs : List V} {Q : VK} (S : Sim K b h) (r : Rls K b ws vs) (q : Post K (Rl K) We b Q (bAll f ws h)) : ∃ (a : Addr) (bs : List Bool), vs = [V.ref a] ∧ SqL K b.H a (bs.map V.bl) ∧ Q (.bl (f bs)) b.H := by
  unfold bAll at q
  split at q
  · rename_i i
    obtain ⟨v, rfl, r1⟩ := rls1 r
    cases r1
    split at q
    · rename_i ks hk
      obtain ⟨xs, h1, h2⟩ := Option.bind_eq_some_iff.mp hk
      obtain ⟨us, hs, rr, _⟩ := S.list h1
      rw [blsOf_ok rr h2] at hs
      exact ⟨_, ks, rfl, hs, q.here S (.bl _)⟩
    · exact q.elim
  · exact q.elim
theorem cs_all (hc : X.calm = true) : CallS X Wx (.builtin "all") (bAll fun ks => ks.all id) := .of (cr_all hc) fun σ b h ws vs Q S r q => bAll_read S r q
theorem cs_any (hc : X.calm = true) : CallS X Wx (.builtin "any") (bAll fun ks => ks.any id) := .of (cr_any hc) fun σ b h ws vs Q S r q => bAll_read S r q
/-! ### repr of data without dicts; str of an int, of a text -/
def bRepr (ws : List W) (h : MH) : R W := match ws with
  | [w] => match dataW h 20 w with
    | some d => if d.showable = true ∧ d.hasDict = false ∧ d.depth ≤ 60 ∧ d.shown.length ≤ sizeLine then .ok (.str d.shown) h else .stuck
    | none => .stuck
  | _ => .stuck
theorem cs_repr (hr : Room k X.A) (hg : X.A.guards = some []) : CallS X Wx (.builtin "repr") bRepr := by
  refine ⟨fun pins s σ b h ws vs us Q I S r rv q => ?_⟩
  unfold bRepr at q
  split at q
  case h_2 => exact q.elim
  rename_i w
  split at q
  case h_2 => exact q.elim
  rename_i d hd
  split at q
  case isFalse => exact q.elim
  rename_i hz
  obtain ⟨z1, z2, z3, z4⟩ := hz
  obtain ⟨v, rfl, r1⟩ := rls1 r
  obtain ⟨u, rfl, ru⟩ := vals1 rv
  obtain ⟨as, rd⟩ := Dp.reads I d v u (dp_of S _ _ _ _ hd r1) ru
  have fin : ∀ h' tk t, (∀ b o, s.heap.get? b = some o → h'.get? b = some o) → EP X pins σ Q (.str d.shown tk) { s with heap := h', toks := t } := fun h' tk t kp => ⟨.str d.shown, b.H, I.kept kp, ⟨tk, rfl⟩, q.here S (.str _)⟩
  have hu := hr.units
  cases rd with
  | none => exact PySem.P.repr_of_none (fin s.heap _ _ fun _ _ e => e)
  | bool k => exact PySem.P.repr_of_bool (fin s.heap _ _ fun _ _ e => e)
  | int i t => exact PySem.P.repr_of_int (of_decide_eq_true (show decide (i.natAbs.log2 < 1920) = true from by simpa only [PyData.showable] using z1)) (fin s.heap _ _ fun _ _ e => e)
  | str x t => exact PySem.P.repr_of_str (by simpa only [PyData.shown] using (fin s.heap s.toks (s.toks + 1) fun _ _ e => e)) (by simpa only [PyData.shown] using z4)
  | list h1 h2 h3 h4 => exact repr_of_reads' (.list h1 h2 h3 h4) z1 (fun z => by rw [z2] at z; cases z) hg (by omega) (fun _ _ e => e) (fun h' tk t kp => fin h' tk t kp) z4
  | tuple h1 h2 h3 h4 => exact repr_of_reads' (.tuple h1 h2 h3 h4) z1 (fun z => by rw [z2] at z; cases z) hg (by omega) (fun _ _ e => e) (fun h' tk t kp => fin h' tk t kp) z4
  | dict h1 h2 h3 h4 h5 => simp only [PyData.hasDict] at z2; cases z2
def bStr (ws : List W) (h : MH) : R W := match ws with
  | [.int i] => if i.natAbs.log2 < 1920 then .ok (.str (toString i)) h else .stuck
  | [.str x] => .ok (.str x) h
  | _ => .stuck
theorem cs_str : CallS X Wx (.type "str") bStr := .of (callR_or call_str_int SkE.call_str_str) fun σ b h ws vs Q S r q => by
  unfold bStr at q
  split at q
  · obtain ⟨v, rfl, r1⟩ := rls1 r
    cases r1
    split at q
    · rename_i hz; exact .inl ⟨_, rfl, hz, q.here S (.str _)⟩
    · exact q.elim
  · obtain ⟨v, rfl, r1⟩ := rls1 r
    cases r1
    exact .inr ⟨_, rfl, q.here S (.str _)⟩
  · exact q.elim
/-! ### max, min of two ints -/
def bMax2 (ws : List W) (h : MH) : R W := match ws with
  | [.int i, .int j] => .ok (.int (if j > i then j else i)) h
  | _ => .stuck
def bMin2 (ws : List W) (h : MH) : R W := match ws with
  | [.int i, .int j] => .ok (.int (if j < i then j else i)) h
  | _ => .stuck
theorem cs_max2 (hc : X.calm = true) : CallS X Wx (.builtin "max") bMax2 := .of (call_max2 hc) fun σ b h ws vs Q S r q => by
  unfold bMax2 at q
  split at q
  · obtain ⟨v, y, rfl, r1, r2⟩ := rls2 r
    cases r1; cases r2
    exact ⟨_, _, rfl, q.here S (.int _)⟩
  · exact q.elim
theorem cs_min2 (hc : X.calm = true) : CallS X Wx (.builtin "min") bMin2 := .of (call_min2 hc) fun σ b h ws vs Q S r q => by
  unfold bMin2 at q
  split at q
  · obtain ⟨v, y, rfl, r1, r2⟩ := rls2 r
    cases r1; cases r2
    exact ⟨_, _, rfl, q.here S (.int _)⟩
  · exact q.elim
/-! ### methods of texts -/
variable {o e : Expr} {mo me : EM} {apos pos : Pos}
def strsOf : List W → Option (List Str)
  | [] => some []
  | .str k :: r => (strsOf r).map (k :: ·)
  | _ => none
theorem strsOf_ok {K : PySem.W.Frag} {b : Bs} : ∀ {ws : List W} {vs : List V} {ks : List Str}, Rls K b ws vs → strsOf ws = some ks → vs = ks.map V.str
  | _, _, ns, .nil, e => by cases e; rfl
  | w :: ws, _, ns, .cons r1 rr, e => by
    cases r1 with
    | str k =>
      simp only [strsOf, Option.map_eq_some_iff] at e
      obtain ⟨ms, e, rfl⟩ := e
      rw [strsOf_ok rr e]; rfl
    | _ => cases e
def bJoin : W → W → MH → R W := fun x y h => match x, (seqAt y h).bind strsOf with
  | .str a, some ys => if (ys.map (·.length)).sum + ys.length * a.length ≤ 16777216 then .ok (.str (Txt.join a ys)) h else .stuck
  | _, _ => .stuck
theorem se_join (ho : SE X Wx o mo) (he : SE X Wx e me) (hs : starEach [e] X.env = [(false, eval e X.env)] := by rfl) (hbase : attributeBase o "join" X.env (eval o X.env) = eval o X.env := by rfl) (hline : (apos.endLine == pos.line) = true := by rfl) :
    SE X Wx (.Call (.Attribute o "join" apos) [e] [] pos) (e2 (fun x y h => match x with
      | .str _ => bJoin x y h
      | _ => .stuck) (fun σ h => (mo σ h).bind fun x g => match x with
      | .str _ => .ok x g
      | _ => .stuck) me) := by
  refine ⟨pe_imp (pe_join ho.pe he.pe hs hbase hline) fun σ H Q ⟨b, h, σm, eH, S, l, q⟩ => ?_⟩
  unfold e2 at q
  rw [bind_assoc'] at q
  refine ⟨b, h, σm, eH, S, l, (Post.bind (rel := Rl X.K) q).mono fun x' H1 ⟨c1, x, h1, eH, E1, S1, r1, q1⟩ => ?_⟩
  subst eH
  cases r1 with
  | str a =>
    refine ⟨⟨a, rfl⟩, c1, h1, σm, rfl, S1, l.ext E1, (Post.bind (rel := Rl X.K) (show Post X.K (Rl X.K) (fun c d H' => Wx c d σ H') c1 Q ((me σm h1).bind _) from q1)).mono fun y' H2 ⟨c2, y, h2, eH, E2, S2, r2, q2⟩ => ?_⟩
    subst eH
    dsimp only at q2
    unfold bJoin at q2
    split at q2
    · rename_i a' ys e1 e2
      cases e1
      obtain ⟨xs, h3, h4⟩ := Option.bind_eq_some_iff.mp e2
      obtain ⟨p, us, rfl, hs, rr⟩ := S2.seq r2 h3
      rw [strsOf_ok rr h4] at hs
      split at q2
      · rename_i hz; exact ⟨a, p, ys, rfl, rfl, hs, hz, q2.here S2 (.str _)⟩
      · exact q2.elim
    · exact q2.elim
  | _ => exact q1.elim
end
end PM
/-! Sm11: displays of dicts; calls by keywords alone. -/
namespace PM
open PySem PySem.Spec L2
open PyProof.Rows hiding St
section
variable {κ α : Type} [DecidableEq κ]
def valM (kvs : List (κ × α)) (k : κ) : Option α := (kvs.find? fun kv => decide (kv.1 = k)).map (·.2)
def putM (kvs : List (κ × α)) (k : κ) (v : α) : List (κ × α) :=
  if (kvs.any fun kv => decide (kv.1 = k)) = true then kvs.map (fun kv => if kv.1 = k then (kv.1, v) else kv) else kvs ++ [(k, v)]
def dropM (kvs : List (κ × α)) (k : κ) : List (κ × α) := kvs.filter fun kv => decide (kv.1 ≠ k)
def mergeM (kvs more : List (κ × α)) : List (κ × α) := more.foldl (fun acc kv => putM acc kv.1 kv.2) kvs
variable {K : PySem.W.Frag} {b : Bs} {kvs more : List (κ × W)} {ps qs : List (κ × V)} {k : κ} {w : W} {v : V}
theorem Rlk.any (r : Rlk K b kvs ps) (k : κ) : (ps.any fun kv => decide (kv.1 = k)) = kvs.any fun kv => decide (kv.1 = k) := by
  have e := congrArg (fun l : List κ => l.any fun x => decide (x = k)) r.1
  simpa [List.any_map, Function.comp_def] using e
theorem Rlk.ind {p : List (κ × W) → List (κ × V) → Prop} (h0 : p [] []) (h1 : ∀ k w v kvs ps, Rl K b w v → Rlk K b kvs ps → p kvs ps → p ((k, w) :: kvs) ((k, v) :: ps)) : ∀ {kvs : List (κ × W)} {ps : List (κ × V)}, Rlk K b kvs ps → p kvs ps
  | [], ps, r => by rw [r.inv_nil]; exact h0
  | (k, w) :: kvs, ps, r => by
    obtain ⟨v, qs, rfl, r1, r2⟩ := r.inv
    exact h1 k w v kvs qs r1 r2 (Rlk.ind h0 h1 r2)
theorem Rlk.app (r : Rlk K b kvs ps) (s : Rlk K b more qs) : Rlk K b (kvs ++ more) (ps ++ qs) := Rlk.ind (p := fun a c => Rlk K b (a ++ more) (c ++ qs)) s (fun k w v kvs ps r1 _ ih => .cons r1 ih) r
theorem Rlk.put (r : Rlk K b kvs ps) (k : κ) (rv : Rl K b w v) : Rlk K b (putM kvs k w) (L2.putK ps k v) := by
  unfold putM L2.putK
  rw [r.any k]
  split
  · refine Rlk.ind (p := fun a c => Rlk K b (a.map fun kv => if kv.1 = k then (kv.1, w) else kv) (c.map fun kv => if kv.1 = k then (kv.1, v) else kv)) .nil (fun k' w' v' kvs ps r1 _ ih => ?_) r
    rw [List.map_cons, List.map_cons]
    dsimp only
    by_cases e : k' = k
    · rw [if_pos e, if_pos e]; exact .cons rv ih
    · rw [if_neg e, if_neg e]; exact .cons r1 ih
  · exact r.app (.cons rv .nil)
theorem Rlk.val (r : Rlk K b kvs ps) (k : κ) : match valM kvs k with
    | some w => ∃ v, valV ps k = some v ∧ Rl K b w v
    | none => valV ps k = none := by
  refine Rlk.ind (p := fun kvs ps => match valM kvs k with
    | some w => ∃ v, valV ps k = some v ∧ Rl K b w v
    | none => valV ps k = none) rfl (fun k' w' v' kvs ps r1 _ ih => ?_) r
  by_cases e : k' = k
  · have e1 : valM ((k', w') :: kvs) k = some w' := by simp [valM, e]
    rw [e1]
    exact ⟨v', valV_pos e, r1⟩
  · have e1 : valM ((k', w') :: kvs) k = valM kvs k := by simp [valM, e]
    rw [e1, valV_neg e]
    exact ih
theorem Rlk.drop (r : Rlk K b kvs ps) (k : κ) : Rlk K b (dropM kvs k) (L2.dropK ps k) := by
  unfold dropM L2.dropK
  refine Rlk.ind (p := fun a c => Rlk K b (a.filter fun kv => decide (kv.1 ≠ k)) (c.filter fun kv => decide (kv.1 ≠ k))) .nil (fun k' w' v' kvs ps r1 _ ih => ?_) r
  by_cases e : k' = k
  · rw [List.filter_cons_of_neg (by simp [e]), List.filter_cons_of_neg (by simp [e])]; exact ih
  · rw [List.filter_cons_of_pos (by simp [e]), List.filter_cons_of_pos (by simp [e])]; exact .cons r1 ih
end
theorem Rlk.merge {K : PySem.W.Frag} {b : Bs} {more : List (Key × W)} {qs : List (Key × V)} (s : Rlk K b more qs) : ∀ {kvs : List (Key × W)} {ps : List (Key × V)}, Rlk K b kvs ps → Rlk K b (mergeM kvs more) (L2.mergeK ps qs) := by
  refine Rlk.ind (p := fun more qs => ∀ {kvs : List (Key × W)} {ps : List (Key × V)}, Rlk K b kvs ps → Rlk K b (mergeM kvs more) (L2.mergeK ps qs)) (fun r => r) (fun k w v more qs r1 _ ih => fun r => ?_) s
  exact ih (r.put k r1)
/-- a key as a value -/
def keyOf : W → Option Key
  | .int i => some (.inl i)
  | .str x => some (.inr x)
  | _ => none
theorem keyOf_ok {K : PySem.W.Frag} {b : Bs} {w : W} {v : V} {k : Key} (e : keyOf w = some k) (r : Rl K b w v) : v = kV k := by
  cases r <;> first | (cases e; rfl) | cases e
def keysOf : List (W × W) → Option (List (Key × W))
  | [] => some []
  | (a, w) :: r => (keyOf a).bind fun k => (keysOf r).bind fun kvs => some ((k, w) :: kvs)
section
variable {K : PySem.W.Frag} {b : Bs} {h : MH}
theorem Sim.pushD (S : Sim K b h) {p : Addr} {kvs : List (Key × W)} {ps : List (Key × V)} (hp : b.H p = none) (r : Rlk K b kvs ps) : Ext K b (b.push p (.dK ps)) ∧ Sim K (b.push p (.dK ps)) (h ++ [.dct kvs]) ∧ Rl K (b.push p (.dK ps)) (.ref h.length) (.ref p) := by
  have x : Ext K b (b.push p (.dK ps)) := Ext.push hp
  refine ⟨x, S.push hp ⟨ps, ?_, r.ext x⟩, ?_⟩
  · rw [Bs.push_at]; exact upd_same
  · have q := Rl.ref (K := K) (b := b.push p (.dK ps)) b.n (Nat.lt_succ_self _)
    rw [Bs.push_at, S.len] at q
    exact q
theorem Sim.putD (S : Sim K b h) {i : Nat} {kvs kvs' : List (Key × W)} {ps : List (Key × V)} (e : h[i]? = some (.dct kvs)) (r : Rlk K b kvs' ps) : Ext K b (b.put i (.dK ps)) ∧ Sim K (b.put i (.dK ps)) (h.set i (.dct kvs')) := by
  have x : Ext K b (b.put i (.dK ps)) := Ext.put (S.ob _ _ e) rfl
  exact ⟨x, S.put e rfl rfl ⟨ps, upd_same, r.ext x⟩⟩
end
section
variable {X : Cx} {Wx : WX} {pos : Pos}
def eDict0 : EM := fun _ h => .ok (.ref h.length) (h ++ [.dct []])
theorem se_dict0 : SE X Wx (.Dict [] [] pos) eDict0 := ⟨pe_imp pe_dnewK fun σ H Q ⟨b, h, σm, e, S, l, q⟩ => by
  subst e
  intro p hp
  obtain ⟨x, s, r⟩ := S.pushD (kvs := []) (ps := []) hp .nil
  exact q _ _ x s r⟩
def prs : List (EM × EM) → MS → MH → R (List (W × W))
  | [], _, h => .ok [] h
  | (a, c) :: r, σ, h => (a σ h).bind fun x h1 => (c σ h1).bind fun y h2 => (prs r σ h2).bind fun l h3 => .ok ((x, y) :: l) h3
structure SPs (X : Cx) (Wx : WX) (pos : Pos) (keys : List (Option Expr)) (values : List Expr) (ms : List (EM × EM)) : Prop where
  pp : PPs X pos keys values (ms.map fun m => (tSim X.K Wx m.1, tSim X.K Wx m.2))
theorem sps_nil : SPs X Wx pos [] [] [] := ⟨pps_nil⟩
theorem sps_cons {k v : Expr} {ks : List (Option Expr)} {vs : List Expr} {mk mv : EM} {ms : List (EM × EM)} (hk : SE X Wx k mk) (hv : SE X Wx v mv) (hr : SPs X Wx pos ks vs ms) : SPs X Wx pos (some k :: ks) (v :: vs) ((mk, mv) :: ms) := ⟨pps_cons hk.pe hv.pe hr.pp⟩
def eDict (ms : List (EM × EM)) : EM := fun σ h => (prs ms σ (h ++ [.dct []])).bind fun l h1 => match keysOf l, h1[h.length]? with
  | some kvs, some (.dct []) => if kvs.length ≤ 15 then .ok (.ref h.length) (h1.set h.length (.dct (mergeM [] kvs))) else .stuck
  | _, _ => .stuck
abbrev rPr (K : PySem.W.Frag) : Bs → List (W × W) → List (V × V) → Prop := fun b l ps => Rls K b (l.map (·.1)) (ps.map (·.1)) ∧ Rls K b (l.map (·.2)) (ps.map (·.2)) ∧ l.length = ps.length
theorem prs_read {σ : L2.St} : ∀ (ms : List (EM × EM)) {b : Bs} {h : MH} {σm : MS} {Q : List (V × V) → Hp → Prop}, Sim X.K b h → SlM X.K b σm σ → Post X.K (rPr X.K) (fun c d H' => Wx c d σ H') b Q (prs ms σm h) → tPairs (ms.map fun m => (tSim X.K Wx m.1, tSim X.K Wx m.2)) σ b.H Q
  | [], b, h, σm, Q, S, l, q => q.here S ⟨.nil, .nil, rfl⟩
  | (a, c) :: r, b, h, σm, Q, S, l, q => by
    refine ⟨b, h, σm, rfl, S, l, (Post.bind (rel := Rl X.K) q).mono fun x' H1 ⟨c1, x, h1, e1, E1, S1, r1, q1⟩ => ?_⟩
    subst e1
    refine ⟨c1, h1, σm, rfl, S1, l.ext E1, (Post.bind (rel := Rl X.K) q1).mono fun y' H2 ⟨c2, y, h2, e2, E2, S2, r2, q2⟩ => ?_⟩
    subst e2
    refine prs_read r S2 ((l.ext E1).ext E2) ((Post.bind (rel := rPr X.K) q2).mono fun l' H3 ⟨c3, l3, h3, e3, E3, S3, r3, q3⟩ => ?_)
    subst e3
    obtain ⟨r31, r32, r33⟩ := r3
    exact q3.here S3 ⟨.cons ((r1.ext E2).ext E3) r31, .cons (r2.ext E3) r32, by simp [r33]⟩
theorem keys_read {K : PySem.W.Frag} {b : Bs} : ∀ {l : List (W × W)} {ps : List (V × V)} {kvs : List (Key × W)}, rPr K b l ps → keysOf l = some kvs → ∃ qs : List (Key × V), ps = qs.map (fun kv => (kV kv.1, kv.2)) ∧ Rlk K b kvs qs ∧ qs.length = kvs.length
  | [], [], kvs, _, e => by cases e; exact ⟨[], rfl, .nil, rfl⟩
  | [], _ :: _, _, ⟨_, _, z⟩, _ => nomatch z
  | _ :: _, [], _, ⟨_, _, z⟩, _ => nomatch z
  | (a, w) :: l, (x, y) :: ps, kvs, ⟨r1, r2, r3⟩, e => by
    unfold keysOf at e
    cases e1 : keyOf a with
    | none => rw [e1] at e; cases e
    | some k =>
      rw [e1] at e
      cases e2 : keysOf l with
      | none => rw [e2] at e; cases e
      | some ms =>
        rw [e2] at e
        cases e
        cases r1 with
        | cons r1 rr1 =>
          cases r2 with
          | cons r2 rr2 =>
            obtain ⟨qs, h1, h2, h3⟩ := keys_read (l := l) (ps := ps) ⟨rr1, rr2, by simpa using r3⟩ e2
            refine ⟨(k, y) :: qs, ?_, .cons r2 h2, by simp [h3]⟩
            have e4 : x = kV k := keyOf_ok e1 r1
            rw [List.map_cons, ← h1, e4]
theorem se_dict {keys : List (Option Expr)} {values : List Expr} {ms : List (EM × EM)} (h : SPs X Wx pos keys values ms) (hall : keys.all (·.isSome) = true := by rfl) (hl : keys.length = values.length := by rfl) (h0 : keys ≠ [] := by exact (fun z => nomatch z)) (h15 : keys.length ≤ 15 := by decide) :
    SE X Wx (.Dict keys values pos) (eDict ms) := by
  refine ⟨pe_imp (pe_disp h.pp hall hl h0 h15) fun σ H Q ⟨b, h, σm, e, S, l, q⟩ p hp => ?_⟩
  subst e
  obtain ⟨x, s, r⟩ := S.pushD (kvs := []) (ps := []) hp .nil
  have q := Post.ext q x
  refine prs_read ms s (l.ext x) ((Post.bind (rel := rPr X.K) q).mono fun l' H3 ⟨c3, l3, h3, e3, E3, S3, r3, q3⟩ => ?_)
  subst e3
  have hj : h.length = b.n := S.len.symm
  have at3 : c3.at_ h.length = p := by
    rw [E3.ix _ (by rw [hj]; exact Nat.lt_succ_self _), hj]
    exact Bs.push_at _ _ _
  split at q3
  · rename_i kvs e1 e2
    split at q3
    · rename_i hz
      obtain ⟨qs, h1, h2, h4⟩ := keys_read r3 e1
      obtain ⟨ps, d1, d2, d3⟩ := S3.dict e2
      rw [d2.inv_nil, at3] at d1
      refine ⟨d1, qs, h1, by rw [h4]; exact hz, ?_⟩
      obtain ⟨x4, s4⟩ := S3.putD e2 (Rlk.merge h2 .nil)
      have := q3 _ (.ref p) x4 s4 (by
        have := Rl.ref (K := X.K) (b := c3.put h.length (.dK (L2.mergeK [] qs))) h.length d3
        rw [show (c3.put h.length (.dK (L2.mergeK [] qs))).at_ h.length = p from at3] at this
        exact this)
      rw [show (c3.put h.length (.dK (L2.mergeK [] qs))).H = upd c3.H p (.dK (L2.mergeK [] qs)) from by
        show upd c3.H (c3.at_ h.length) _ = _
        rw [at3]] at this
      exact this
    · exact q3.elim
  · exact q3.elim
end
section
variable {X : Cx} {Wx : WX} {k : Nat} {f : Addr} {fd : FuncData} {ps ks : List Str} {m : FM} {x : Str} {p pos : Pos} {kws : List Keyword} {nk : AM} {g : List Value → List Value → List Value} {gV : List V → List V → List V} {gW : List W → List W → List W} {np : Nat}
/-- f(k = v, ..) -/
theorem se_callK0 (F : FnG X.prog X.w X.K X.mg X.base k f fd ps m) (hr : Room k X.A) (hgd : X.A.guards = some []) (tk : Takes X Wx) (hg : Gl X x) (hm : X.mg x = some (.ref f)) (hk : PySem.W.keepIn X.K (.ref f) = true) (hb : KbG X.K fd ps ks np g gV gW)
    (hkw : SK X Wx kws nk) (hall : (backToKw pos (keywordEach kws X.env)).all (·.1.isSome) = true := by rfl) (hks : (backToKw pos (keywordEach kws X.env)).filterMap (·.1) = ks := by rfl)
    (hdb : (x == ("__debug__" : Str)) = false := by decide)
    (hpl : ((backTo pos (starEach [] X.env)).any (·.1) || (backToKw pos (keywordEach kws X.env)).any (·.1.isNone)) = false := by rfl) :
    SE X Wx (.Call (.Name x p) [] kws pos) (eCallK np ks.length (fun ws zs => m (gW ws zs)) aNil nk) := by
  refine ⟨⟨fun pins s σ H Q I q => ?_⟩⟩
  obtain ⟨b, h, σm, rfl, S, l, q⟩ := q
  refine wpAny_Call_Name_kw (ld_glob I hg hm ?_ hdb)
  refine PySem.W.callWith_KW0 (h₀ := X.base) I.ok.mod.kin hk hall (thn (hkw.pk.run pos pins s σ _ _ I ⟨b, h, σm, rfl, S, l, Post.bind (rel := Rls X.K) (show Post X.K (Rl X.K) (fun c d H' => Wx c d σ H') b Q ((nk σm h).bind fun zs h2 => if ([] : List W).length = np ∧ zs.length = ks.length then m (gW [] zs) h2 else .stuck) from q)⟩) fun zs s2 ⟨ys, H2, I2, r2, c2, xs, h2, e2, E2, S2, l2, q2⟩ => ?_) hpl
  subst e2
  refine ⟨I2.kIn, ?_⟩
  rw [hks]
  exact run_kw F hr hgd tk hb I2 (us := []) (vs := []) (ws := []) .nil r2 S2 .nil l2 q2
end
end PM
/-! Sm12: pairs stored at once, unary minus, binding. -/
namespace PM
open PySem PySem.Spec L2
open PyProof.Rows hiding St
section
variable {X : Cx} {Wx : WX} {pos : Pos} {a c e : Expr} {ma mc me : EM} {n : AM}
def eNeg (m : EM) : EM := fun σ h => (m σ h).bind fun w h1 => match w with
  | .int i => .ok (.int (-i)) h1
  | _ => .stuck
theorem se_neg (ha : SE X Wx a ma) : SE X Wx (.UnaryOp .USub a pos) (eNeg ma) := ⟨pe_imp (pe_un un_neg ha.pe) fun σ H Q ⟨b, h, σm, e, S, l, q⟩ => by
  refine ⟨b, h, σm, e, S, l, (Post.bind (rel := Rl X.K) q).mono fun x' H1 ⟨c1, x, h1, eH, E1, S1, r1, q1⟩ => ?_⟩
  subst eH
  cases r1 <;> first | exact q1.elim | exact ⟨_, rfl, q1.here S1 (.int _)⟩⟩
/-- a, b = x, y at once -/
def sPar (i j : Nat) (n : AM) : SM := fun σ h => (n σ h).st σ fun ws h1 => match ws with
  | [v, w] => .nx ((σ.set i (some v)).set j (some w)) h1
  | _ => .stuck
theorem ss_par {i j : Nat} {x y : Str} {px py pt : Pos} {kt k2 pt2} (hc : X.calm = true) (hN : X.N.Nodup) (hi : X.N[i]? = some x) (hj : X.N[j]? = some y) (hij : i ≠ j)
    (hx : X.env.scope.names.lookup x = some .local) (hy : X.env.scope.names.lookup y = some .local) (ha : SA X Wx [a, c] n)
    (hw : swappedStores [.Tuple [.Name x px, .Name y py] kt pt] (.Tuple [a, c] k2 pt2) X.env = pure (some [x, y]))
    (hs : swapsWithSole [.Tuple [.Name x px, .Name y py] kt pt] (.Tuple [a, c] k2 pt2) pos.line X.env = pure false := by rfl) :
    SS X Wx (.Assign [.Tuple [.Name x px, .Name y py] kt pt] (.Tuple [a, c] k2 pt2) pos) (sPar i j n) := by
  refine ⟨ps_imp (ps_par hc hN hi hj hij hx hy ha.pa hw hs) fun D σ H ⟨b, h, σm, e, S, l, q⟩ => ?_⟩
  refine ⟨b, h, σm, e, S, l, (PostS.st (rel := Rls X.K) l q).mono fun vs H1 ⟨c1, ws, g, e, x, s, r, p⟩ => ?_⟩
  subst e
  split at p
  · obtain ⟨v, w, rfl, r1, r2⟩ := rls2 r
    exact ⟨v, w, rfl, p c1 _ .refl s (((l.ext x).set i r1).set j r2)⟩
  · exact p.elim
theorem rls3 {K : PySem.W.Frag} {b : Bs} {w x y : W} {vs : List V} (r : Rls K b [w, x, y] vs) : ∃ v u t, vs = [v, u, t] ∧ Rl K b w v ∧ Rl K b x u ∧ Rl K b y t := by
  cases r with
  | cons r rr =>
    obtain ⟨u, t, rfl, r2, r3⟩ := rls2 rr
    exact ⟨_, u, t, rfl, r, r2, r3⟩
def sPar3 (i j k : Nat) (n : AM) : SM := fun σ h => (n σ h).st σ fun ws h1 => match ws with
  | [u, v, w] => .nx (((σ.set i (some u)).set j (some v)).set k (some w)) h1
  | _ => .stuck
theorem ss_par3 {d : Expr} {i j l : Nat} {x y z : Str} {px py pz pt : Pos} {kt k2 pt2} (hc : X.calm = true) (hN : X.N.Nodup) (hi : X.N[i]? = some x) (hj : X.N[j]? = some y) (hl : X.N[l]? = some z) (hij : i ≠ j) (hil : i ≠ l) (hjl : j ≠ l)
    (hx : X.env.scope.names.lookup x = some .local) (hy : X.env.scope.names.lookup y = some .local) (hz : X.env.scope.names.lookup z = some .local) (ha : SA X Wx [a, c, d] n)
    (hw : swappedStores [.Tuple [.Name x px, .Name y py, .Name z pz] kt pt] (.Tuple [a, c, d] k2 pt2) X.env = pure (some [x, y, z]))
    (hs : swapsWithSole [.Tuple [.Name x px, .Name y py, .Name z pz] kt pt] (.Tuple [a, c, d] k2 pt2) pos.line X.env = pure false := by rfl) :
    SS X Wx (.Assign [.Tuple [.Name x px, .Name y py, .Name z pz] kt pt] (.Tuple [a, c, d] k2 pt2) pos) (sPar3 i j l n) := by
  refine ⟨ps_imp (ps_par3 hc hN hi hj hl hij hil hjl hx hy hz ha.pa hw hs) fun D σ H ⟨b, h, σm, e, S, l, q⟩ => ?_⟩
  refine ⟨b, h, σm, e, S, l, (PostS.st (rel := Rls X.K) l q).mono fun vs H1 ⟨c1, ws, g, e, x, s, r, p⟩ => ?_⟩
  subst e
  split at p
  · obtain ⟨u, v, w, rfl, r1, r2, r3⟩ := rls3 r
    exact ⟨u, v, w, rfl, p c1 _ .refl s ((((l.ext x).set _ r1).set _ r2).set _ r3)⟩
  · exact p.elim
end
/-! ### binding -/
/-- the values by place, out of the positional ones and the keywords' -/
def gPerm {α : Type} (p : List Nat) (us ws : List α) : List α := p.filterMap fun i => (us ++ ws)[i]?
theorem perm_vals {p : List Nat} {vs zs : List V} {us ws : List Value} (r : Vals vs us) (s : Vals zs ws) : Vals (gPerm p vs zs) (gPerm p us ws) := by
  have rs := r.append s
  unfold gPerm
  induction p with
  | nil => exact .nil
  | cons i p ih =>
    rw [List.filterMap_cons, List.filterMap_cons]
    cases e : (vs ++ zs)[i]? with
    | none => rw [rs.none_of e]; exact ih
    | some v =>
      obtain ⟨u, hu, ru⟩ := rs.get e
      rw [hu]
      exact .cons ru ih
theorem perm_rls {K : PySem.W.Frag} {b : Bs} {p : List Nat} {us ws : List W} {vs zs : List V} (r : Rls K b us vs) (s : Rls K b ws zs) : Rls K b (gPerm p us ws) (gPerm p vs zs) := by
  have rs := r.append s
  unfold gPerm
  induction p with
  | nil => exact .nil
  | cons i p ih =>
    rw [List.filterMap_cons, List.filterMap_cons]
    cases e : (us ++ ws)[i]? with
    | none =>
      have : (vs ++ zs)[i]? = none := by
        rw [List.getElem?_eq_none_iff] at e ⊢
        rw [← rs.length]; exact e
      rw [this]; exact ih
    | some v =>
      obtain ⟨u, hu, ru⟩ := rs.get e
      rw [hu]
      exact .cons ru ih
section
variable {K : PySem.W.Frag} {x qual : Str} {params : Arguments} {body : List Stmt} {scope : Scope} {kws : List (Str × V)} {f : Addr} {fd : FuncData} {ps ks : List Str}
/-- keywords, no defaults -/
theorem kbG_of (F : FunD K x qual params body scope [] kws f fd) (np : Nat) (p : List Nat)
    (h : ∀ (kV doc pm : Value) (an : Option Addr) (cdv ct : Value) (us ws : List Value), us.length = np → ws.length = ks.length → bindArgs (PySem.W.fnOf x qual params body scope .none kV doc pm an cdv ct) ⟨us, ks.zip ws⟩ = pure (ps.zip (gPerm p us ws))) :
    KbG K fd ps ks np (gPerm p) (gPerm p) (gPerm p) := by
  obtain ⟨oc, od, dV, kV, doc, pm, an, cdv, ct, osl, rfl, lk, hcd, hD, hK⟩ := F.ex
  rcases hD with ⟨_, rfl⟩ | ⟨e, _⟩
  · exact ⟨fun s us ws _ h1 h2 _ => .of_eq (h kV doc pm an cdv ct us ws h1 h2), perm_vals, perm_rls⟩
  · exact absurd rfl e
end
section
variable {X : Cx} {Wx : WX} {k : Nat} {f : Addr} {fd : FuncData} {ps : List Str} {m : FM} {x : Str} {p pos : Pos} {e : Expr} {es : List Expr} {n : AM}
/-- f(e, ..), every parameter written -/
theorem se_callN (F : FnG X.prog X.w X.K X.mg X.base k f fd ps m) (hr : Room k X.A) (hgd : X.A.guards = some []) (tk : Takes X Wx) (hg : Gl X x) (hm : X.mg x = some (.ref f)) (hk : PySem.W.keepIn X.K (.ref f) = true) (hb : Binds X.K fd ps [])
    (ha : SA X Wx (e :: es) n) (hdb : (x == ("__debug__" : Str)) = false := by decide) (he : starEach (e :: es) X.env = (false, eval e X.env) :: starEach es X.env := by rfl) (hpl : (backTo pos (starEach es X.env)).any (·.1) = false := by rfl) :
    SE X Wx (.Call (.Name x p) (e :: es) [] pos) (eCall m n) := by
  have q := se_call (p := p) F hr hgd tk hg hm hk hb (dvs := []) (dws := []) .nil (fun _ => .nil) ha hdb he hpl
  simpa using q
theorem se_callN0 (F : FnG X.prog X.w X.K X.mg X.base k f fd ps m) (hr : Room k X.A) (hgd : X.A.guards = some []) (tk : Takes X Wx) (hg : Gl X x) (hm : X.mg x = some (.ref f)) (hk : PySem.W.keepIn X.K (.ref f) = true) (hb : Binds X.K fd ps [])
    (hdb : (x == ("__debug__" : Str)) = false := by decide) : SE X Wx (.Call (.Name x p) [] [] pos) (eCall m aNil) := by
  have q := se_call0 (Wx := Wx) (p := p) (pos := pos) F hr hgd tk hg hm hk hb (dvs := []) (dws := []) .nil (fun _ => .nil) hdb
  simpa using q
end
def eJoin (mo me : EM) : EM := e2 (fun x y h => match x with
      | .str _ => bJoin x y h
      | _ => .stuck) (fun σ h => (mo σ h).bind fun x g => match x with
      | .str _ => .ok x g
      | _ => .stuck) me
theorem se_join' {X : Cx} {Wx : WX} {pos apos : Pos} {o e : Expr} {mo me : EM} (ho : SE X Wx o mo) (he : SE X Wx e me) (hs : starEach [e] X.env = [(false, eval e X.env)] := by rfl) (hbase : attributeBase o "join" X.env (eval o X.env) = eval o X.env := by rfl) (hline : (apos.endLine == pos.line) = true := by rfl) :
    SE X Wx (.Call (.Attribute o "join" apos) [e] [] pos) (eJoin mo me) := se_join ho he hs hbase hline
section
variable {X : Cx} {Wx : WX} {k : Nat} {f : Addr} {fd : FuncData} {ps ks : List Str} {m : FM} {x : Str} {p pos : Pos} {e : Expr} {es : List Expr} {kws : List Keyword} {n nk : AM} {g : List Value → List Value → List Value} {gV : List V → List V → List V} {gW : List W → List W → List W} {np kn : Nat}
theorem se_callKw0 (F : FnG X.prog X.w X.K X.mg X.base k f fd ps m) (hr : Room k X.A) (hgd : X.A.guards = some []) (tk : Takes X Wx) (hb : KbG X.K fd ps ks np g gV gW) (hn : ks.length = kn) (hg : Gl X x) (hm : X.mg x = some (.ref f)) (hk : PySem.W.keepIn X.K (.ref f) = true)
    (hkw : SK X Wx kws nk) (hall : (backToKw pos (keywordEach kws X.env)).all (·.1.isSome) = true := by rfl) (hks : (backToKw pos (keywordEach kws X.env)).filterMap (·.1) = ks := by rfl)
    (hdb : (x == ("__debug__" : Str)) = false := by decide)
    (hpl : ((backTo pos (starEach [] X.env)).any (·.1) || (backToKw pos (keywordEach kws X.env)).any (·.1.isNone)) = false := by rfl) :
    SE X Wx (.Call (.Name x p) [] kws pos) (eCallK np kn (fun ws zs => m (gW ws zs)) aNil nk) := by
  subst hn
  exact se_callK0 F hr hgd tk hg hm hk hb hkw hall hks hdb hpl
theorem se_callKw (F : FnG X.prog X.w X.K X.mg X.base k f fd ps m) (hr : Room k X.A) (hgd : X.A.guards = some []) (tk : Takes X Wx) (hb : KbG X.K fd ps ks np g gV gW) (hn : ks.length = kn) (hg : Gl X x) (hm : X.mg x = some (.ref f)) (hk : PySem.W.keepIn X.K (.ref f) = true)
    (ha : SA X Wx (e :: es) n) (hkw : SK X Wx kws nk) (hall : (backToKw pos (keywordEach kws X.env)).all (·.1.isSome) = true := by rfl) (hks : (backToKw pos (keywordEach kws X.env)).filterMap (·.1) = ks := by rfl)
    (hdb : (x == ("__debug__" : Str)) = false := by decide) (he : starEach (e :: es) X.env = (false, eval e X.env) :: starEach es X.env := by rfl)
    (hpl : ((backTo pos (starEach (e :: es) X.env)).any (·.1) || (backToKw pos (keywordEach kws X.env)).any (·.1.isNone)) = false := by rfl) :
    SE X Wx (.Call (.Name x p) (e :: es) kws pos) (eCallK np kn (fun ws zs => m (gW ws zs)) n nk) := by
  subst hn
  exact se_callK F hr hgd tk hg hm hk hb ha hkw hall hks hdb he hpl
theorem se_globS {y z : Str} {pos : Pos} (h : ∃ t, X.mg y = some (.str z t)) (hg : Gl X y) (hd : (y == ("__debug__" : Str)) = false := by decide) : SE X Wx (.Name y pos) (eC (.str z)) := by
  obtain ⟨t, h⟩ := h
  exact se_glob (v := .str z) hg h ⟨t, rfl⟩ (fun _ => .str _) hd
theorem se_globI {y : Str} {i : Int} {pos : Pos} (h : ∃ t, X.mg y = some (.int i t)) (hg : Gl X y) (hd : (y == ("__debug__" : Str)) = false := by decide) : SE X Wx (.Name y pos) (eC (.int i)) := by
  obtain ⟨t, h⟩ := h
  exact se_glob (v := .int i) hg h ⟨t, rfl⟩ (fun _ => .int _) hd
end
theorem FunD.same {K : PySem.W.Frag} {x qual : Str} {params : Arguments} {body : List Stmt} {scope : Scope} {dvs : List V} {kws : List (Str × V)} {f : Addr} {fd fd' : FuncData} (F : FunD K x qual params body scope dvs kws f fd) (F' : FunD K x qual params body scope dvs kws f fd') : fd = fd' := by
  obtain ⟨oc, od, dV, kV, doc, pm, an, cdv, ct, osl, _, lk, _⟩ := F.ex
  obtain ⟨oc', od', dV', kV', doc', pm', an', cdv', ct', osl', _, lk', _⟩ := F'.ex
  rw [lk] at lk'
  cases lk'
  rfl
theorem bt_str : bootBuiltins "str" = some (.type "str") := by decide +kernel
theorem bt_int : bootBuiltins "int" = some (.type "int") := by decide +kernel
theorem bt_bool : bootBuiltins "bool" = some (.type "bool") := by decide +kernel
theorem bt_list : bootBuiltins "list" = some (.type "list") := by decide +kernel
theorem bt_tuple : bootBuiltins "tuple" = some (.type "tuple") := by decide +kernel
theorem bt_dict : bootBuiltins "dict" = some (.type "dict") := by decide +kernel
theorem bt_set : bootBuiltins "set" = some (.type "set") := by decide +kernel
theorem bt_range : bootBuiltins "range" = some (.type "range") := by decide +kernel
theorem bt_len : bootBuiltins "len" = some (.builtin "len") := by decide +kernel
theorem bt_isinstance : bootBuiltins "isinstance" = some (.builtin "isinstance") := by decide +kernel
theorem bt_all : bootBuiltins "all" = some (.builtin "all") := by decide +kernel
theorem bt_any : bootBuiltins "any" = some (.builtin "any") := by decide +kernel
theorem bt_repr : bootBuiltins "repr" = some (.builtin "repr") := by decide +kernel
theorem bt_max : bootBuiltins "max" = some (.builtin "max") := by decide +kernel
theorem bt_min : bootBuiltins "min" = some (.builtin "min") := by decide +kernel
theorem bt_sorted : bootBuiltins "sorted" = some (.builtin "sorted") := by decide +kernel
theorem bt_sum : bootBuiltins "sum" = some (.builtin "sum") := by decide +kernel
theorem bt_enumerate : bootBuiltins "enumerate" = some (.type "enumerate") := by decide +kernel
theorem bt_zip : bootBuiltins "zip" = some (.type "zip") := by decide +kernel
end PM
/-! Sm13: reckoning with mirrors. -/
namespace PM
open PySem L2
section
variable (σ : MS) (h : MH)
@[simp] theorem ev_var (i : Nat) : eVar i σ h = match σ[i]? with
    | some (some w) => .ok w h
    | _ => .stuck := rfl
@[simp] theorem ev_c (w : W) : eC w σ h = .ok w h := rfl
@[simp] theorem ev_e1 (f : W → MH → R W) (a : EM) : e1 f a σ h = (a σ h).bind f := rfl
@[simp] theorem ev_e2 (f : W → W → MH → R W) (a c : EM) : e2 f a c σ h = (a σ h).bind fun x h1 => (c σ h1).bind fun y h2 => f x y h2 := rfl
@[simp] theorem ev_nil : aNil σ h = .ok [] h := rfl
@[simp] theorem ev_cons (m : EM) (n : AM) : aCons m n σ h = (m σ h).bind fun w h1 => (n σ h1).bind fun ws h2 => .ok (w :: ws) h2 := rfl
@[simp] theorem ev_tup (n : AM) : eTup n σ h = (n σ h).bind fun ws h1 => if ws.length ≤ sizeLine then .ok (.tup ws) h1 else .stuck := rfl
@[simp] theorem ev_lst (n : AM) : eLst n σ h = (n σ h).bind fun ws h1 => if ws.length ≤ sizeLine then .ok (.ref h1.length) (h1 ++ [.lst ws]) else .stuck := rfl
@[simp] theorem ev_call (m : List W → MH → R W) (n : AM) : eCall m n σ h = (n σ h).bind m := rfl
@[simp] theorem ev_callK (np nk : Nat) (m : List W → List W → MH → R W) (n k : AM) : eCallK np nk m n k σ h = (n σ h).bind fun ws h1 => (k σ h1).bind fun zs h2 => if ws.length = np ∧ zs.length = nk then m ws zs h2 else .stuck := rfl
@[simp] theorem ev_tru (m : EM) : tTru m σ h = (m σ h).bind truW := rfl
@[simp] theorem ev_tnot (m : TM) : tNotM m σ h = (m σ h).bind fun k h1 => .ok (!k) h1 := rfl
@[simp] theorem ev_tand (m n : TM) : tAndM m n σ h = (m σ h).bind fun k h1 => if k = true then n σ h1 else .ok false h1 := rfl
@[simp] theorem ev_tor (m n : TM) : tOrM m n σ h = (m σ h).bind fun k h1 => if k = true then .ok true h1 else n σ h1 := rfl
@[simp] theorem ev_and (m n : EM) : eAnd m n σ h = (m σ h).bind fun w h1 => (truW w h1).bind fun k h2 => if k = true then n σ h2 else .ok w h2 := rfl
@[simp] theorem ev_or (m n : EM) : eOr m n σ h = (m σ h).bind fun w h1 => (truW w h1).bind fun k h2 => if k = true then .ok w h2 else n σ h2 := rfl
@[simp] theorem ev_not (m : EM) : eNot m σ h = (m σ h).bind fun w h1 => (truW w h1).bind fun k h2 => .ok (.bl (!k)) h2 := rfl
@[simp] theorem ev_if (t : TM) (m n : EM) : eIf t m n σ h = (t σ h).bind fun k h1 => if k = true then m σ h1 else n σ h1 := rfl
@[simp] theorem ev_chain (m n : W → W → MH → R W) (x y z : EM) : eChain m n x y z σ h = (x σ h).bind fun v h1 => (y σ h1).bind fun u h2 => (m v u h2).bind fun t h3 => (truW t h3).bind fun k h4 => if k = true then (z σ h4).bind fun o h5 => n u o h5 else .ok t h4 := rfl
@[simp] theorem ev_neg (m : EM) : eNeg m σ h = (m σ h).bind fun w h1 => match w with
    | .int i => .ok (.int (-i)) h1
    | _ => .stuck := rfl
@[simp] theorem ev_sl (m : EM) (lo hi : OM) : eSl m lo hi σ h = (m σ h).bind fun x h1 => (lo σ h1).bind fun l h2 => (hi σ h2).bind fun u h3 => bSl x l u h3 := rfl
@[simp] theorem ev_ono : oNo σ h = .ok none h := rfl
@[simp] theorem ev_osome (m : EM) : oSome m σ h = (m σ h).bind fun w h1 => match w with
    | .int i => .ok (some i) h1
    | _ => .stuck := rfl
@[simp] theorem ev_dict0 : eDict0 σ h = .ok (.ref h.length) (h ++ [.dct []]) := rfl
@[simp] theorem ev_next : sNext σ h = .nx σ h := rfl
@[simp] theorem ev_seq (m n : SM) : sSeq m n σ h = (m σ h).seq n := rfl
@[simp] theorem ev_stuckS : sStuck σ h = .stuck := rfl
@[simp] theorem ev_break : sBreak σ h = .bk σ h := rfl
@[simp] theorem ev_cont : sCont σ h = .ct σ h := rfl
@[simp] theorem ev_expr (m : EM) : sExpr m σ h = (m σ h).st σ fun _ h1 => .nx σ h1 := rfl
@[simp] theorem ev_ret (m : EM) : sRet m σ h = (m σ h).st σ fun w h1 => .rt w h1 := rfl
@[simp] theorem ev_retN : sRetN σ h = .rt .non h := rfl
@[simp] theorem ev_set (i : Nat) (m : EM) : sSet i m σ h = (m σ h).st σ fun w h1 => .nx (σ.set i (some w)) h1 := rfl
@[simp] theorem ev_sif (t : TM) (m n : SM) : sIf t m n σ h = (t σ h).st σ fun k h1 => if k = true then m σ h1 else n σ h1 := rfl
@[simp] theorem ev_asg (g : GM) (m : EM) : sAsg g m σ h = (m σ h).st σ fun w h1 => match g w σ h1 with
    | some σ' => .nx σ' h1
    | none => .stuck := rfl
@[simp] theorem ev_par (i j : Nat) (n : AM) : sPar i j n σ h = (n σ h).st σ fun ws h1 => match ws with
    | [v, w] => .nx ((σ.set i (some v)).set j (some w)) h1
    | _ => .stuck := rfl
@[simp] theorem ev_par3 (i j k : Nat) (n : AM) : sPar3 i j k n σ h = (n σ h).st σ fun ws h1 => match ws with
    | [u, v, w] => .nx (((σ.set i (some u)).set j (some v)).set k (some w)) h1
    | _ => .stuck := rfl
@[simp] theorem ev_setIx (mo mi mv : EM) : sSetIx mo mi mv σ h = (mv σ h).st σ fun v h1 => (mo σ h1).st σ fun o h2 => (mi σ h2).st σ fun i h3 => match o, i with
    | .ref j, .int k => match mutAt h3 j with
      | some xs => match ixN xs.length k with
        | some n => .nx σ (h3.set j (.lst (xs.set n v)))
        | none => .stuck
      | none => .stuck
    | _, _ => .stuck := rfl
@[simp] theorem ev_for (it : MS → MH → R MI) (g : GM) (body : SM) : sFor it g body σ h = (it σ h).st σ fun mi h1 => forGo mi g body mi.fuel 0 σ h1 := rfl
@[simp] theorem ev_val (m : EM) : iVal m σ h = (m σ h).bind iterW := rfl
@[simp] theorem ev_rng (f : List W → MH → R MI) (n : AM) : iRange f n σ h = (n σ h).bind f := rfl
@[simp] theorem ev_gn (w : W) (i : Nat) : gN i w σ h = some (σ.set i (some w)) := rfl
@[simp] theorem ev_gnil : gNil [] σ h = some σ := rfl
@[simp] theorem ev_gcons (g : GM) (k : GMs) (w : W) (ws : List W) : gCons g k (w :: ws) σ h = (g w σ h).bind fun σ' => k ws σ' h := rfl
@[simp] theorem ev_gtp (n : Nat) (k : GMs) (ws : List W) : gTp n k (.tup ws) σ h = if ws.length = n then k ws σ h else none := rfl
@[simp] theorem ev_yes : tYesM σ h = .ok true h := rfl
@[simp] theorem ev_lc (it : MS → MH → R MI) (vs : List Nat) (g : GM) (t : TM) (m : EM) : eLc it vs g t m σ h = (it σ h).bind fun mi h1 => lcGo mi g t m (wipeM σ vs) h1.length mi.fuel 0 (h1 ++ [.lst []]) := rfl
end
theorem line_eq : (sizeLine : Nat) = 16777216 := sizeLine_eq
/-! ### reading heaps -/
section
variable {h h' : MH} {i j : Nat} {xs ys : List W} {o : Ob}
theorem lst_of_mut (e : mutAt h i = some xs) : lstAt h i = some xs := by
  unfold lstAt; rw [mutAt_eq e]
theorem mut_lt (e : mutAt h i = some xs) : i < h.length := (List.getElem?_eq_some_iff.mp (mutAt_eq e)).1
theorem lst_lt (e : lstAt h i = some xs) : i < h.length := by
  unfold lstAt at e
  split at e
  · rename_i q; exact (List.getElem?_eq_some_iff.mp q).1
  · rename_i q; exact (List.getElem?_eq_some_iff.mp q).1
  · cases e
@[simp] theorem mut_new (h : MH) (xs : List W) : mutAt (h ++ [.lst xs]) h.length = some xs := by
  unfold mutAt; simp
@[simp] theorem lst_new (h : MH) (xs : List W) : lstAt (h ++ [.lst xs]) h.length = some xs := lst_of_mut (mut_new h xs)
theorem mut_app (e : i < h.length) : mutAt (h ++ h') i = mutAt h i := by
  unfold mutAt; rw [List.getElem?_append_left e]
theorem lst_app (e : i < h.length) : lstAt (h ++ h') i = lstAt h i := by
  unfold lstAt; rw [List.getElem?_append_left e]
theorem mut_set (e : i < h.length) : mutAt (h.set i (.lst xs)) i = some xs := by
  unfold mutAt; rw [List.getElem?_set_self e]
theorem lst_set (e : i < h.length) : lstAt (h.set i (.lst xs)) i = some xs := lst_of_mut (mut_set e)
theorem mut_set_ne (e : i ≠ j) : mutAt (h.set i o) j = mutAt h j := by
  unfold mutAt; rw [List.getElem?_set_ne e]
theorem lst_set_ne (e : i ≠ j) : lstAt (h.set i o) j = lstAt h j := by
  unfold lstAt; rw [List.getElem?_set_ne e]
end
/-- all but the object b is as it was -/
structure Fr (b : Nat) (h h' : MH) : Prop where
  le : h.length ≤ h'.length
  at_ : ∀ i, i ≠ b → i < h.length → h'[i]? = h[i]?
theorem Fr.refl {b : Nat} {h : MH} : Fr b h h := ⟨Nat.le_refl _, fun _ _ _ => rfl⟩
theorem Fr.trans {b : Nat} {h1 h2 h3 : MH} (x : Fr b h1 h2) (y : Fr b h2 h3) : Fr b h1 h3 := ⟨Nat.le_trans x.le y.le, fun i hi hl => (y.at_ i hi (Nat.lt_of_lt_of_le hl x.le)).trans (x.at_ i hi hl)⟩
theorem Fr.app {b : Nat} {h : MH} (e : MH) : Fr b h (h ++ e) := ⟨by simp, fun i _ hl => List.getElem?_append_left hl⟩
theorem Fr.set {b : Nat} {h : MH} (o : Ob) : Fr b h (h.set b o) := ⟨by simp, fun i hi _ => List.getElem?_set_ne (fun z => hi z.symm)⟩
theorem Fr.lst {b : Nat} {h h' : MH} (x : Fr b h h') {i : Nat} {xs : List W} (hi : i ≠ b) (e : lstAt h i = some xs) : lstAt h' i = some xs := by
  rw [← e]
  unfold lstAt
  rw [x.at_ i hi (lst_lt e)]
theorem Fr.mut {b : Nat} {h h' : MH} (x : Fr b h h') {i : Nat} {xs : List W} (hi : i ≠ b) (e : mutAt h i = some xs) : mutAt h' i = some xs := by
  rw [← e]
  unfold mutAt
  rw [x.at_ i hi (mut_lt e)]
/-! ### values -/
@[simp] theorem tru_bl (k : Bool) (h : MH) : truW (.bl k) h = .ok k h := rfl
@[simp] theorem add_ii (i j : Int) (h : MH) : bAdd (.int i) (.int j) h = .ok (.int (i + j)) h := rfl
@[simp] theorem sub_ii (i j : Int) (h : MH) : bSub (.int i) (.int j) h = .ok (.int (i - j)) h := rfl
@[simp] theorem lt_ii (i j : Int) (h : MH) : bLt (.int i) (.int j) h = .ok (.bl (decide (i < j))) h := rfl
@[simp] theorem le_ii (i j : Int) (h : MH) : bLe (.int i) (.int j) h = .ok (.bl (decide (i ≤ j))) h := rfl
@[simp] theorem gt_ii (i j : Int) (h : MH) : bGt (.int i) (.int j) h = .ok (.bl (decide (j < i))) h := rfl
@[simp] theorem ge_ii (i j : Int) (h : MH) : bGe (.int i) (.int j) h = .ok (.bl (decide (j ≤ i))) h := rfl
theorem mul_ii {i j : Int} {h : MH} (hz : i.natAbs.log2 + j.natAbs.log2 < 1000000) : bMul (.int i) (.int j) h = .ok (.int (i * j)) h := if_pos hz
theorem log2_lt64 {n : Nat} (h : n < 2 ^ 64) : n.log2 < 64 := by
  by_cases e : n = 0
  · subst e; decide
  · exact (Nat.log2_lt e).mpr h
theorem mul_small {i j : Int} {h : MH} (h1 : i.natAbs < 2 ^ 64) (h2 : j.natAbs < 2 ^ 64) : bMul (.int i) (.int j) h = .ok (.int (i * j)) h := mul_ii (by
  have := log2_lt64 h1
  have := log2_lt64 h2
  omega)
theorem mod_ii {i j : Int} {h : MH} (hz : 0 < j) : bMod (.int i) (.int j) h = .ok (.int (i % j)) h := if_pos (decide_eq_true hz)
theorem div_ii {i j : Int} {h : MH} (hz : 0 < j) (h9 : j.natAbs.log2 < 9000) : bDiv (.int i) (.int j) h = .ok (.int (i / j)) h := if_pos (decide_eq_true ⟨hz, h9⟩)
theorem pow_ii {i j : Int} {h : MH} (h1 : 0 ≤ j) (h2 : j ≤ 1000000) (h3 : i.natAbs < 2 ^ 64) : bPow (.int i) (.int j) h = .ok (.int (i ^ j.toNat)) h := if_pos (decide_eq_true ⟨h1, h2, h3⟩)
theorem add_ss {x y : Str} {h : MH} (hz : x.length + y.length ≤ sizeLine) : bAdd (.str x) (.str y) h = .ok (.str (x ++ y)) h := if_pos hz
@[simp] theorem lt_ss (x y : Str) (h : MH) : bLt (.str x) (.str y) h = .ok (.bl (decide (x.cps.toList < y.cps.toList))) h := rfl
@[simp] theorem le_ss (x y : Str) (h : MH) : bLe (.str x) (.str y) h = .ok (.bl (!decide (y.cps.toList < x.cps.toList))) h := rfl
theorem ix_l {i : Nat} {k : Int} {h : MH} {xs : List W} {w : W} (e : lstAt h i = some xs) (a : atI xs k = some w) : bIx (.ref i) (.int k) h = .ok w h := by
  simp [bIx, seqAt, e, a]
theorem ix_s {x : Str} {k : Int} {h : MH} {c : Nat} (hz : x.length ≤ sizeLine) (a : atI x.cps.toList k = some c) : bIx (.str x) (.int k) h = .ok (.str ⟨#[c]⟩) h := by
  simp [bIx, hz, a]
theorem len_l {i : Nat} {h : MH} {xs : List W} (e : lstAt h i = some xs) : bLen [.ref i] h = .ok (.int xs.length) h := by
  simp [bLen, lenW, e]
theorem len_s {x : Str} {h : MH} (hz : x.length ≤ sizeLine) : bLen [.str x] h = .ok (.int x.length) h := by
  simp [bLen, lenW, hz]
@[simp] theorem max2_ii (i j : Int) (h : MH) : bMax2 [.int i, .int j] h = .ok (.int (if j > i then j else i)) h := rfl
@[simp] theorem min2_ii (i j : Int) (h : MH) : bMin2 [.int i, .int j] h = .ok (.int (if j < i then j else i)) h := rfl
/-! ### == and repr -/
@[simp] theorem data_non (h : MH) (n : Nat) : dataW h n .non = some .none := by cases n <;> rfl
@[simp] theorem data_bl (h : MH) (n : Nat) (k : Bool) : dataW h n (.bl k) = some (.bool k) := by cases n <;> rfl
@[simp] theorem data_int (h : MH) (n : Nat) (i : Int) : dataW h n (.int i) = some (.int i) := by cases n <;> rfl
@[simp] theorem data_str (h : MH) (n : Nat) (x : Str) : dataW h n (.str x) = some (.str x) := by cases n <;> rfl
theorem data_ref {h : MH} {n i : Nat} {xs : List W} {ds : List PyData} (e : lstAt h i = some xs) (d : mapO (dataW h n) xs = some ds) : dataW h (n + 1) (.ref i) = some (.list ds) := by
  simp [dataW, e, d]
theorem data_tup {h : MH} {n : Nat} {xs : List W} {ds : List PyData} (d : mapO (dataW h n) xs = some ds) : dataW h (n + 1) (.tup xs) = some (.tuple ds) := by
  simp [dataW, d]
@[simp] theorem mapO_nil {α β : Type} (f : α → Option β) : mapO f [] = some [] := rfl
@[simp] theorem mapO_cons {α β : Type} (f : α → Option β) (x : α) (xs : List α) : mapO f (x :: xs) = (f x).bind fun y => (mapO f xs).bind fun ys => some (y :: ys) := rfl
theorem eq_of_data {x y : W} {h : MH} {d e : PyData} (hf : eqFlat x y = none) (hx : dataW h 20 x = some d) (hy : dataW h 20 y = some e) (s1 : SeqAt.shaped d = true) (s2 : SeqAt.shaped e = true) : bEq x y h = .ok (.bl (PyData.eqv d e)) h := by
  simp [bEq, hf, hx, hy, s1, s2]
theorem ne_of_data {x y : W} {h : MH} {d e : PyData} (hf : eqFlat x y = none) (hx : dataW h 20 x = some d) (hy : dataW h 20 y = some e) (s1 : SeqAt.shaped d = true) (s2 : SeqAt.shaped e = true) : bNe x y h = .ok (.bl (!PyData.eqv d e)) h := by
  simp [bNe, hf, hx, hy, s1, s2]
theorem shaped_nil : SeqAt.shaped (.list []) = true := by decide
@[simp] theorem eq_ss (x y : Str) (h : MH) : bEq (.str x) (.str y) h = .ok (.bl (x == y)) h := rfl
@[simp] theorem ne_ss (x y : Str) (h : MH) : bNe (.str x) (.str y) h = .ok (.bl (!(x == y))) h := rfl
@[simp] theorem eq_bb (x y : Bool) (h : MH) : bEq (.bl x) (.bl y) h = .ok (.bl (x == y)) h := rfl
@[simp] theorem ne_bb (x y : Bool) (h : MH) : bNe (.bl x) (.bl y) h = .ok (.bl (!(x == y))) h := rfl
@[simp] theorem eq_ii (x y : Int) (h : MH) : bEq (.int x) (.int y) h = .ok (.bl (x == y)) h := rfl
@[simp] theorem ne_ii (x y : Int) (h : MH) : bNe (.int x) (.int y) h = .ok (.bl (!(x == y))) h := rfl
theorem eq_nils {i j : Nat} {h : MH} (hi : lstAt h i = some []) (hj : lstAt h j = some []) : bEq (.ref i) (.ref j) h = .ok (.bl true) h :=
  (eq_of_data rfl (data_ref hi rfl) (data_ref hj rfl) shaped_nil shaped_nil).trans (by rw [PyData.eqv, PyData.eqvAll])
@[simp] theorem repr_bl (k : Bool) (h : MH) : bRepr [.bl k] h = .ok (.str (PyData.shown (.bool k))) h := by
  have e : (PyData.shown (.bool k)).length ≤ sizeLine := by cases k <;> (simp only [PyData.shown]; decide)
  simp [bRepr, PyData.showable, PyData.hasDict, PyData.depth, e]
theorem shown_bl (k : Bool) : PyData.shown (.bool k) = if k then ("True" : Str) else ("False" : Str) := by rw [PyData.shown]
@[simp] theorem is_bb (x y : Bool) (h : MH) : bIs (.bl x) (.bl y) h = .ok (.bl (decide (x = y))) h := rfl
@[simp] theorem isnot_bb (x y : Bool) (h : MH) : bNot (.bl x) (.bl y) h = .ok (.bl (!decide (x = y))) h := rfl
/-! ### loops -/
theorem for_inv {mi : MI} {g : GM} {body : SM} (I : Nat → MS → MH → Prop) (n : Nat) (stop : ∀ σ h, I n σ h → mi.nx n h = some none)
    (step : ∀ i σ h, i < n → I i σ h → ∃ w σ1, mi.nx i h = some (some w) ∧ g w σ h = some σ1 ∧ ∃ σ2 h2, body σ1 h = .nx σ2 h2 ∧ I (i + 1) σ2 h2) :
    ∀ (f i : Nat) (σ : MS) (h : MH), i + f = n → I i σ h → ∃ σ' h', forGo mi g body f i σ h = .nx σ' h' ∧ I n σ' h'
  | 0, i, σ, h, e, hI => by
    obtain rfl : i = n := by omega
    exact ⟨σ, h, by simp [forGo, stop σ h hI], hI⟩
  | f + 1, i, σ, h, e, hI => by
    obtain ⟨w, σ1, e1, e2, σ2, h2, e3, hI2⟩ := step i σ h (by omega) hI
    obtain ⟨σ', h', e4, hI3⟩ := for_inv I n stop step f (i + 1) σ2 h2 (by omega) hI2
    exact ⟨σ', h', by simp [forGo, e1, e2, e3, e4], hI3⟩
/-- a comprehension: j the new list's number; each turn leaves it, and hands on the invariant -/
theorem lc_inv {mi : MI} {g : GM} {t : TM} {e : EM} {σ : MS} {j : Nat} (I : Nat → MH → List W → Prop) (n : Nat) (stop : ∀ h acc, I n h acc → mi.nx n h = some none)
    (step : ∀ i h acc, i < n → mutAt h j = some acc → I i h acc → ∃ w σ1, mi.nx i h = some (some w) ∧ g w σ h = some σ1 ∧
      ((∃ h1, t σ1 h = .ok false h1 ∧ mutAt h1 j = some acc ∧ I (i + 1) h1 acc) ∨
       (∃ h1 y h2, t σ1 h = .ok true h1 ∧ e σ1 h1 = .ok y h2 ∧ mutAt h2 j = some acc ∧ acc.length < sizeLine ∧ I (i + 1) (h2.set j (.lst (acc ++ [y]))) (acc ++ [y])))) :
    ∀ (f i : Nat) (h : MH) (acc : List W), i + f = n → mutAt h j = some acc → I i h acc → ∃ h' acc', lcGo mi g t e σ j f i h = .ok (.ref j) h' ∧ mutAt h' j = some acc' ∧ I n h' acc'
  | 0, i, h, acc, en, ea, hI => by
    obtain rfl : i = n := by omega
    exact ⟨h, acc, by simp [lcGo, stop h acc hI], ea, hI⟩
  | f + 1, i, h, acc, en, ea, hI => by
    obtain ⟨w, σ1, e1, e2, hs⟩ := step i h acc (by omega) ea hI
    rcases hs with ⟨h1, e3, e4, hI2⟩ | ⟨h1, y, h2, e3, e4, e5, hz, hI2⟩
    · obtain ⟨h', acc', e6, e7, hI3⟩ := lc_inv I n stop step f (i + 1) h1 acc (by omega) e4 hI2
      exact ⟨h', acc', by simp [lcGo, e1, e2, e3, e6], e7, hI3⟩
    · obtain ⟨h', acc', e6, e7, hI3⟩ := lc_inv I n stop step f (i + 1) (h2.set j (.lst (acc ++ [y]))) (acc ++ [y]) (by omega) (mut_set (mut_lt e5)) hI2
      exact ⟨h', acc', by simp [lcGo, e1, e2, e3, e4, e5, hz, e6], e7, hI3⟩
/-- parts that only look: over the things φ a, those of p -/
theorem lc_pure {α : Type} {mi : MI} {g : GM} {t : TM} {e : EM} {σ : MS} {h0 : MH} (xs : List α) (φ : α → W) (p : α → Bool) (f : α → W) (hz : xs.length ≤ sizeLine) (hw : ∀ i acc, mi.nx i (h0 ++ [.lst acc]) = some (xs[i]?.map φ))
    (hb : ∀ a ∈ xs, ∀ acc, ∃ σ1, g (φ a) σ (h0 ++ [.lst acc]) = some σ1 ∧ t σ1 (h0 ++ [.lst acc]) = .ok (p a) (h0 ++ [.lst acc]) ∧ (p a = true → e σ1 (h0 ++ [.lst acc]) = .ok (f a) (h0 ++ [.lst acc]))) :
    lcGo mi g t e σ h0.length xs.length 0 (h0 ++ [.lst []]) = .ok (.ref h0.length) (h0 ++ [.lst ((xs.filter p).map f)]) := by
  obtain ⟨h', acc', e1, e2, i1, i2⟩ := lc_inv (mi := mi) (g := g) (t := t) (e := e) (σ := σ) (j := h0.length) (fun i h acc => h = h0 ++ [.lst acc] ∧ acc = ((xs.take i).filter p).map f) xs.length
    (fun h acc ⟨e1, _⟩ => by rw [e1, hw, List.getElem?_eq_none (Nat.le_refl _)]; rfl)
    (fun i h acc hi _ ⟨e1, e2⟩ => by
      subst e1
      obtain ⟨σ1, g1, t1, el⟩ := hb xs[i] (List.getElem_mem hi) acc
      refine ⟨φ xs[i], σ1, by rw [hw, List.getElem?_eq_getElem hi]; rfl, g1, ?_⟩
      have tk : xs.take (i + 1) = xs.take i ++ [xs[i]] := by simp [hi]
      cases hp : p xs[i] with
      | false =>
        rw [hp] at t1
        exact .inl ⟨_, t1, mut_new _ _, rfl, by rw [tk, List.filter_append]; simp [hp, e2]⟩
      | true =>
        rw [hp] at t1
        refine .inr ⟨_, f xs[i], _, t1, el hp, mut_new _ _, ?_, ?_, by rw [tk, List.filter_append]; simp [hp, e2]⟩
        · rw [e2, List.length_map]
          have h1 : ((xs.take i).filter p).length ≤ (xs.take i).length := List.length_filter_le _ _
          rw [List.length_take] at h1
          omega
        · rw [List.set_append_right _ _ (Nat.le_refl _)]; simp) xs.length 0 _ [] (by omega) (mut_new _ _) ⟨rfl, rfl⟩
  rw [e1, i1, i2, List.take_length]
/-- all of them -/
theorem lc_map {α : Type} {mi : MI} {g : GM} {e : EM} {σ : MS} {h0 : MH} (xs : List α) (φ : α → W) (f : α → W) (hz : xs.length ≤ sizeLine) (hw : ∀ i acc, mi.nx i (h0 ++ [.lst acc]) = some (xs[i]?.map φ))
    (hb : ∀ a ∈ xs, ∀ acc, ∃ σ1, g (φ a) σ (h0 ++ [.lst acc]) = some σ1 ∧ e σ1 (h0 ++ [.lst acc]) = .ok (f a) (h0 ++ [.lst acc])) :
    lcGo mi g tYesM e σ h0.length xs.length 0 (h0 ++ [.lst []]) = .ok (.ref h0.length) (h0 ++ [.lst (xs.map f)]) := by
  have q := lc_pure (t := tYesM) xs φ (fun _ => true) f hz hw fun a ha acc => by
    obtain ⟨σ1, h1, h2⟩ := hb a ha acc
    exact ⟨σ1, h1, rfl, fun _ => h2⟩
  have : xs.filter (fun _ => true) = xs := List.filter_eq_self.mpr fun _ _ => rfl
  rw [this] at q
  exact q
/-- none of them -/
theorem lc_none {α : Type} {mi : MI} {g : GM} {t : TM} {e : EM} {σ : MS} {h0 : MH} (xs : List α) (φ : α → W) (hz : xs.length ≤ sizeLine) (hw : ∀ i acc, mi.nx i (h0 ++ [.lst acc]) = some (xs[i]?.map φ))
    (hb : ∀ a ∈ xs, ∀ acc, ∃ σ1, g (φ a) σ (h0 ++ [.lst acc]) = some σ1 ∧ t σ1 (h0 ++ [.lst acc]) = .ok false (h0 ++ [.lst acc])) :
    lcGo mi g t e σ h0.length xs.length 0 (h0 ++ [.lst []]) = .ok (.ref h0.length) (h0 ++ [.lst []]) := by
  have q := lc_pure (e := e) xs φ (fun _ => false) φ hz hw fun a ha acc => by
    obtain ⟨σ1, h1, h2⟩ := hb a ha acc
    exact ⟨σ1, h1, h2, fun z => nomatch z⟩
  have : xs.filter (fun _ => false) = [] := List.filter_eq_nil_iff.mpr fun _ _ z => nomatch z
  rw [this] at q
  exact q
theorem in_sign (neg : Bool) (c : Nat) (z : Str) (h : MH) : inG neg (.str ⟨#[c]⟩) (.str z) h = .ok (.bl (if neg then !decide (c ∈ z.cps.toList) else decide (c ∈ z.cps.toList))) h := by
  exact if_pos (e := R.stuck) (show (⟨#[c]⟩ : Str).length = 1 from rfl)
theorem nx_str (x : Str) (i : Nat) (h : MH) : (itS x).nx i h = some (x.cps.toList[i]?.map fun c => .str ⟨#[c]⟩) := rfl
@[simp] theorem fuel_str (x : Str) : (itS x).fuel = x.cps.toList.length := by simp [itS, Str.length]
@[simp] theorem fuel_lst (i : Nat) (xs : List W) : (itL i xs).fuel = xs.length := rfl
@[simp] theorem fuel_tup (xs : List W) : (itT xs).fuel = xs.length := rfl
@[simp] theorem fuel_rng (lo : Int) (n : Nat) : (itR lo n).fuel = n := rfl
theorem nx_lst {i k : Nat} {xs ys : List W} {h : MH} (e : lstAt h i = some ys) : (itL i xs).nx k h = some (ys[k]?.map id) := by
  simp [itL, e]
theorem nx_tup (xs : List W) (k : Nat) (h : MH) : (itT xs).nx k h = some (xs[k]?.map id) := by
  simp [itT]
theorem nx_rng (lo : Int) (n k : Nat) (h : MH) : (itR lo n).nx k h = some ((List.range n)[k]?.map fun (j : Nat) => .int (lo + j)) := by
  unfold itR
  dsimp only
  by_cases hk : k < n
  · simp [hk]
  · simp [hk]
theorem blsOf_map {α : Type} (l : List α) (p : α → Bool) : blsOf (l.map fun a => W.bl (p a)) = some (l.map p) := by
  induction l with
  | nil => rfl
  | cons a l ih => simp [blsOf, ih]
theorem all_l {i : Nat} {h : MH} {l : List W} {ks : List Bool} {f : List Bool → Bool} (e : lstAt h i = some l) (b : blsOf l = some ks) : bAll f [.ref i] h = .ok (.bl (f ks)) h := by
  simp [bAll, e, b]
theorem iter_l {i : Nat} {h : MH} {xs : List W} (e : lstAt h i = some xs) : iterW (.ref i) h = .ok (itL i xs) h := by
  simp [iterW, e]
@[simp] theorem iter_s (x : Str) (h : MH) : iterW (.str x) h = .ok (itS x) h := rfl
@[simp] theorem iter_t (xs : List W) (h : MH) : iterW (.tup xs) h = .ok (itT xs) h := rfl
end PM
/-! Sm14: texts, and == with nothing. -/
namespace PM
open PySem L2
/-- a text's signs are signs -/
def Cp (x : Str) : Prop := ∀ c ∈ x.cps.toList, c < 0x110000
theorem Cp.ok {x : Str} (p : Cp x) : PyData.strOk x = true := by
  unfold PyData.strOk
  rw [← Array.all_toList, List.all_eq_true]
  intro c hc
  exact decide_eq_true (p c hc)
theorem app_cps (x y : Str) : (x ++ y).cps.toList = x.cps.toList ++ y.cps.toList := by
  rw [show (x ++ y).cps = x.cps ++ y.cps from rfl, Array.toList_append]
theorem Cp.app {x y : Str} (p : Cp x) (q : Cp y) : Cp (x ++ y) := by
  intro c hc
  rw [app_cps, List.mem_append] at hc
  exact hc.elim (p c) (q c)
theorem Cp.one {c : Nat} (p : c < 0x110000) : Cp ⟨#[c]⟩ := by
  intro d hd
  simp at hd
  omega
theorem len_cps (x : Str) : x.length = x.cps.toList.length := by simp [Str.length]
theorem app_len (x y : Str) : (x ++ y).length = x.length + y.length := by
  rw [len_cps, len_cps, len_cps, app_cps, List.length_append]
theorem one_len (c : Nat) : (⟨#[c]⟩ : Str).length = 1 := rfl
theorem cut_cps (x : Str) (lo hi : Option Int) : (cutS x lo hi).cps.toList = (x.cps.toList.drop (HT.sIx x.length 0 lo)).take (HT.sIx x.length x.length hi - HT.sIx x.length 0 lo) := rfl
theorem Cp.cut {x : Str} (p : Cp x) (lo hi : Option Int) : Cp (cutS x lo hi) := by
  intro c hc
  rw [cut_cps] at hc
  exact p c (List.mem_of_mem_drop (List.mem_of_mem_take hc))
theorem cut_len (x : Str) (lo hi : Option Int) : (cutS x lo hi).length ≤ x.length := by
  rw [len_cps, len_cps x, cut_cps, List.length_take, List.length_drop]
  omega
/-- one text laid many times -/
def repS (x : Str) (k : Int) : Str := ⟨(List.replicate k.toNat x.cps.toList).flatten.toArray⟩
theorem Cp.rep {x : Str} (p : Cp x) (k : Int) : Cp (repS x k) := by
  intro c hc
  have : c ∈ (List.replicate k.toNat x.cps.toList).flatten := hc
  obtain ⟨l, h1, h2⟩ := List.mem_flatten.mp this
  rw [List.mem_replicate] at h1
  exact p c (h1.2 ▸ h2)
theorem rep_len (x : Str) (k : Int) : (repS x k).length = k.toNat * x.length := by
  rw [len_cps, len_cps x]
  show (List.replicate k.toNat x.cps.toList).flatten.toArray.toList.length = _
  simp
theorem mul_si {x : Str} {k : Int} {h : MH} (h1 : -(2 ^ 63) ≤ k) (h2 : k < 2 ^ 63) (h3 : x.length * k.toNat ≤ sizeLine) : bMul (.str x) (.int k) h = .ok (.str (repS x k)) h := if_pos ⟨h1, h2, h3⟩
theorem sl_s {x : Str} {lo hi : Option Int} {h : MH} (hz : x.length ≤ sizeLine) : bSl (.str x) lo hi h = .ok (.str (cutS x lo hi)) h := if_pos hz
theorem Cp.nil : Cp "" := by
  intro c hc
  rw [show ("" : Str).cps.toList = [] by decide] at hc
  cases hc
theorem Cp.join {l : List Str} (p : ∀ x ∈ l, Cp x) : Cp (Txt.join "" l) := by
  rw [TL.join_eq]
  induction l with
  | nil => exact Cp.nil
  | cons x r ih =>
    cases r with
    | nil => exact p x (.head _)
    | cons y r =>
      show Cp (x ++ "" ++ Str.join "" (y :: r))
      exact ((p x (.head _)).app Cp.nil).app (ih fun z hz => p z (.tail _ hz))
theorem join_len {l : List Str} (p : ∀ x ∈ l, x.length = 1) : (Txt.join "" l).length = l.length := by
  rw [TL.join_eq]
  induction l with
  | nil => rfl
  | cons x r ih =>
    cases r with
    | nil => exact p x (.head _)
    | cons y r =>
      show (x ++ "" ++ Str.join "" (y :: r)).length = _
      rw [app_len, app_len, ih fun z hz => p z (.tail _ hz), p x (.head _), show ("" : Str).length = 0 from rfl]
      simp only [List.length_cons]
      omega
theorem shaped_strs {l : List Str} (p : ∀ x ∈ l, Cp x) : SeqAt.shaped (.list (l.map PyData.str)) = true := by
  have h1 : PyData.canLayAll0 (l.map PyData.str) = true := by
    induction l with
    | nil => rfl
    | cons x r ih => simp [PyData.canLayAll0, PyData.canLay0, (p x (.head _)).ok, ih fun z hz => p z (.tail _ hz)]
  have h2 : PyData.depthAll (l.map PyData.str) = 0 := by
    clear h1 p
    induction l with
    | nil => rfl
    | cons x r ih => simp [PyData.depthAll, PyData.depth, ih]
  simp [SeqAt.shaped, PyData.canLay0, PyData.depth, h1, h2]
theorem data_strs {h : MH} {n : Nat} : ∀ l : List Str, mapO (dataW h n) (l.map W.str) = some (l.map PyData.str)
  | [] => rfl
  | x :: l => by simp [data_strs l]
/-- a list of texts against an empty one -/
theorem eq_strs_nil {i j : Nat} {h : MH} {l : List Str} (hi : lstAt h i = some (l.map W.str)) (hj : lstAt h j = some []) (p : ∀ x ∈ l, Cp x) : bEq (.ref i) (.ref j) h = .ok (.bl (decide (l = []))) h := by
  refine (eq_of_data rfl (data_ref hi (data_strs l)) (data_ref hj rfl) (shaped_strs p) shaped_nil).trans ?_
  cases l with
  | nil => simp [PyData.eqv, PyData.eqvAll]
  | cons x r => simp [PyData.eqv, PyData.eqvAll]
theorem join_l {i : Nat} {h : MH} {xs : List W} {ys : List Str} (e : lstAt h i = some xs) (s : strsOf xs = some ys) (hz : (ys.map (·.length)).sum ≤ 16777216) : bJoin (.str "") (.ref i) h = .ok (.str (Txt.join "" ys)) h := by
  have : (ys.map (·.length)).sum + ys.length * ("" : Str).length ≤ 16777216 := by
    rw [show ("" : Str).length = 0 from rfl]; omega
  simp [bJoin, seqAt, e, s, this]
theorem strsOf_map : ∀ l : List Str, strsOf (l.map W.str) = some l
  | [] => rfl
  | x :: l => by simp [strsOf, strsOf_map l]
theorem sum_ones : ∀ {l : List Str}, (∀ x ∈ l, x.length = 1) → (l.map (·.length)).sum = l.length
  | [], _ => rfl
  | x :: l, p => by
    have := sum_ones fun y hy => p y (.tail _ hy)
    simp [p x (.head _), this]
    omega
@[simp] theorem ev_join (m n : EM) (σ : MS) (h : MH) : eJoin m n σ h = ((m σ h).bind fun x g => match x with
      | .str _ => .ok x g
      | _ => .stuck).bind fun x h1 => (n σ h1).bind fun y h2 => match x with
      | .str _ => bJoin x y h2
      | _ => .stuck := rfl
theorem rng1_i {j : Int} {h : MH} (h1 : -(2 ^ 62) ≤ j) (h2 : j < 2 ^ 62) : rng1 [.int j] h = .ok (itR 0 j.toNat) h := if_pos ⟨h1, h2⟩
theorem rng2_i {i j : Int} {h : MH} (h1 : -(2 ^ 62) ≤ i) (h2 : i < 2 ^ 62) (h3 : -(2 ^ 62) ≤ j) (h4 : j < 2 ^ 62) : rng2 [.int i, .int j] h = .ok (itR i (j - i).toNat) h := if_pos ⟨h1, h2, h3, h4⟩
@[simp] theorem set_end (h : MH) (o p : Ob) : (h ++ [o]).set h.length p = h ++ [p] := by
  rw [List.set_append_right _ _ (Nat.le_refl _)]
  simp
theorem dict1 {m n : EM} {σ : MS} {h : MH} {x w : W} {k : Key} (hm : ∀ g, m σ g = .ok x g) (hn : ∀ g, n σ g = .ok w g) (hk : keyOf x = some k) : eDict [(m, n)] σ h = .ok (.ref h.length) (h ++ [.dct [(k, w)]]) := by
  simp [eDict, prs, hm, hn, keysOf, hk, mergeM, putM]
theorem at_end (h : MH) (o : Ob) : (h ++ [o])[h.length]? = some o := by simp
theorem isi_l {i : Nat} {h : MH} {xs : List W} {n : String} (e : lstAt h i = some xs) : bIsi [.ref i, .ty n] h = match isB "list" n with
    | some r => .ok (.bl r) h
    | none => .stuck := by
  simp [bIsi, tyB, e]
  all_goals (cases isB "list" n <;> rfl)
theorem isi_d {i : Nat} {h : MH} {kvs : List (Key × W)} {n : String} (e : h[i]? = some (.dct kvs)) : bIsi [.ref i, .ty n] h = match isB "dict" n with
    | some r => .ok (.bl r) h
    | none => .stuck := by
  simp [bIsi, tyB, lstAt, e]
  all_goals (cases isB "dict" n <;> rfl)
theorem lst_at {i : Nat} {h : MH} {xs : List W} (e : h[i]? = some (.lst xs)) : lstAt h i = some xs := by
  simp [lstAt, e]
theorem get_app {h : MH} {i k : Nat} (l : MH) (e : i = h.length + k) : (h ++ l)[i]? = l[k]? := by
  subst e
  rw [List.getElem?_append_right (by omega), Nat.add_sub_cancel_left]
theorem Fr.set_new {b : Nat} {h h' : MH} {j : Nat} {o : Ob} (x : Fr b h h') (hj : h.length ≤ j) : Fr b h (h'.set j o) := ⟨by simpa using x.le, fun i hi hl => by rw [List.getElem?_set_ne (by omega), x.at_ i hi hl]⟩
end PM
namespace K02
open PySem L2 PM
def m__law_box : FM := mkF 1 1
    (sRet (eLst (aCons (eCall bMax2 (aCons (eC (.int 0)) (aCons (e2 bSub (eVar 0) (e2 bPow (eC (.int 10)) (eC (.int 18)))) aNil))) (aCons (e2 bMod (eVar 0) (eC (.int 2147483629))) (aCons (eC (.int 0)) aNil)))))
def m__law_cell : FM := mkF 2 2
    (sSeq (sIf (tTru (e2 bLt (eVar 1) (eCall bLen (aCons (eVar 0) aNil)))) (sRet (e2 bIx (eVar 0) (eVar 1))) sNext)
    (sRet (e2 bAdd (e2 bMul (eC (.int 15487277)) (eVar 1)) (eC (.int 187)))))
def m__law_take : FM := mkF 2 4
    (sSeq (sIf (tTru (e2 bGt (e2 bIx (eVar 0) (eC (.int 0))) (eC (.int 0)))) (sSeq (sSet 2 (e2 bMod (e2 bIx (eVar 0) (eC (.int 0))) (eVar 1)))
    (sSeq (sSetIx (eVar 0) (eC (.int 0)) (e2 bDiv (e2 bIx (eVar 0) (eC (.int 0))) (eVar 1)))
    (sRet (eVar 2)))) sNext)
    (sSeq (sSetIx (eVar 0) (eC (.int 2)) (e2 bAdd (e2 bIx (eVar 0) (eC (.int 2))) (eC (.int 1))))
    (sSeq (sSet 3 (e2 bMod (e2 bPow (e2 bAdd (e2 bAdd (e2 bIx (eVar 0) (eC (.int 1))) (e2 bMul (eC (.int 15487277)) (e2 bIx (eVar 0) (eC (.int 2))))) (eC (.int 187))) (eC (.int 5))) (eC (.int 2147483647))))
    (sSeq (sSet 3 (e2 bMod (e2 bPow (e2 bAdd (eVar 3) (e2 bMul (eC (.int 104723)) (e2 bIx (eVar 0) (eC (.int 2))))) (eC (.int 3))) (eC (.int 2147483587))))
    (sRet (e2 bMod (e2 bDiv (eVar 3) (eC (.int 16))) (eVar 1)))))))
def m_is_integer : FM := mkF 3 3
    (sRet (eAnd (eCall bIsi (aCons (eVar 0) (aCons (eC (.ty "int")) aNil))) (eAnd (eNot (eCall bIsi (aCons (eVar 0) (aCons (eC (.ty "bool")) aNil)))) (eChain bLe bLe (eVar 1) (eVar 0) (eVar 2)))))
def m__law_integers_right : FM := mkF 1 8
    (sSeq (sSet 1 (e2 bIx (eLst (aCons (eC (.int 0)) (aCons (eC (.int 1)) (aCons (eNeg (eC (.int 5))) (aCons (e2 bPow (eC (.int 10)) (eC (.int 29))) (aCons (e2 bSub (eCall m__law_take (aCons (eVar 0) (aCons (eC (.int 2000)) aNil))) (eC (.int 1000))) aNil)))))) (eCall m__law_take (aCons (eVar 0) (aCons (eC (.int 5)) aNil)))))
    (sSeq (sSet 2 (e2 bAdd (eVar 1) (e2 bIx (eLst (aCons (eC (.int 0)) (aCons (eC (.int 1)) (aCons (eC (.int 7)) (aCons (eCall m__law_take (aCons (eVar 0) (aCons (eC (.int 3000)) aNil))) (aCons (eNeg (eC (.int 1))) (aCons (eNeg (eC (.int 9))) aNil))))))) (eCall m__law_take (aCons (eVar 0) (aCons (eC (.int 6)) aNil))))))
    (sSeq (sSet 3 (eLst (aCons (e2 bSub (eVar 1) (eC (.int 1))) (aCons (eVar 1) (aCons (e2 bAdd (eVar 1) (eC (.int 1))) (aCons (e2 bSub (eVar 2) (eC (.int 1))) (aCons (eVar 2) (aCons (e2 bAdd (eVar 2) (eC (.int 1))) aNil))))))))
    (sSeq (sFor (iVal (e2 bAdd (eVar 3) (eLst (aCons (eC (.int 0)) (aCons (eC (.int 1)) (aCons (eNeg (e2 bPow (eC (.int 10)) (eC (.int 29)))) (aCons (e2 bSub (eCall m__law_take (aCons (eVar 0) (aCons (eC (.int 4000)) aNil))) (eC (.int 2000))) aNil))))))) (gN 4) (sSeq (sSet 5 (eCall bRepr (aCons (eAnd (e2 bLe (eVar 1) (eVar 4)) (e2 bLe (eVar 4) (eVar 2))) aNil)))
    (sSeq (sIf (tTru (e2 bNe (eCall bRepr (aCons (eCall m_is_integer (aCons (eVar 4) (aCons (eVar 1) (aCons (eVar 2) aNil)))) aNil)) (eVar 5))) (sRet (eC (.bl false))) sNext)
    (sIf (tTru (e2 bNe (eCall bRepr (aCons (eCallK 0 3 (fun ws zs => m_is_integer (gPerm [1, 2, 0] ws zs)) aNil (aCons (eVar 2) (aCons (eVar 4) (aCons (eVar 1) aNil)))) aNil)) (eVar 5))) (sRet (eC (.bl false))) sNext))))
    (sSeq (sSet 6 (eLst (aCons (eC .non) (aCons (eC (.bl true)) (aCons (eC (.bl false)) (aCons (eCall bStr (aCons (eVar 1) aNil)) (aCons (eLst (aCons (eVar 1) aNil)) (aCons (eTup (aCons (eVar 1) aNil)) (aCons (eDict [((eVar 1), (eVar 1))]) (aCons (eC (.str "")) aNil))))))))))
    (sRet (e2 bEq (eLc (iVal (eVar 6)) [7] (gN 7) (tTru (e2 bNot (eCall m_is_integer (aCons (eVar 7) (aCons (eVar 1) (aCons (eVar 2) aNil)))) (eC (.bl false)))) (eVar 7)) (eLst aNil))))))))
def m__law_is_name : FM := mkF 1 2
    (sRet (eAnd (eChain bLe bLe (eC (.int 1)) (eCall bLen (aCons (eVar 0) aNil)) (eC (.int 8))) (e2 bEq (eLc (iVal (eVar 0)) [1] (gN 1) (tNotM (tTru (eChain bLe bLe (eC (.str "a")) (eVar 1) (eC (.str "z"))))) (eVar 1)) (eLst aNil))))
def m__law_text : FM := mkF 1 8
    (sSeq (sAsg (gTp 2 (gCons (gN 1) (gCons (gN 2) gNil))) (eTup (aCons (eC (.str "abcdefghijklmnopqrstuvwxyz")) (aCons (e2 bAdd (eC (.str "AZ09 _-.~'{`")) (eC (.str "\n"))) aNil))))
    (sSeq (sSet 3 (eJoin (eC (.str "")) (eLc (iRange rng1 (aCons (eCall m__law_take (aCons (eVar 0) (aCons (eC (.int 12)) aNil))) aNil)) [4] (gN 4) tYesM (e2 bIx (eVar 1) (eCall m__law_take (aCons (eVar 0) (aCons (eC (.int 26)) aNil)))))))
    (sSeq (sPar 5 6 (aCons (eCall m__law_take (aCons (eVar 0) (aCons (e2 bAdd (eCall bLen (aCons (eVar 3) aNil)) (eC (.int 1))) aNil))) (aCons (e2 bIx (eVar 2) (eCall m__law_take (aCons (eVar 0) (aCons (eC (.int 13)) aNil)))) aNil)))
    (sSeq (sSet 7 (eCall m__law_take (aCons (eVar 0) (aCons (eC (.int 4)) aNil))))
    (sSeq (sIf (tTru (e2 bEq (eVar 7) (eC (.int 0)))) (sRet (e2 bAdd (e2 bAdd (eSl (eVar 3) oNo (oSome (eVar 5))) (eVar 6)) (eSl (eVar 3) (oSome (e2 bAdd (eVar 5) (eC (.int 1)))) oNo))) sNext)
    (sRet (e2 bIx (eLst (aCons (eVar 3) (aCons (eSl (eVar 3) oNo (oSome (eC (.int 8)))) (aCons (e2 bAdd (eVar 3) (e2 bMul (eC (.str "a")) (e2 bSub (eC (.int 8)) (eCall bLen (aCons (eVar 3) aNil))))) aNil)))) (e2 bSub (eVar 7) (eC (.int 1))))))))))
def m_is_name : FM := mkF 1 2
    (sSeq (sIf (tOrM (tNotM (tTru (eCall bIsi (aCons (eVar 0) (aCons (eC (.ty "str")) aNil))))) (tNotM (tTru (eChain bLe bLe (eC (.int 1)) (eCall bLen (aCons (eVar 0) aNil)) (eC (.int 8)))))) (sRet (eC (.bl false))) sNext)
    (sRet (eCall (bAll fun ks => ks.all id) (aCons (eLc (iVal (eVar 0)) [1] (gN 1) tYesM (e2 (inG false) (eVar 1) (eC (.str "abcdefghijklmnopqrstuvwxyz")))) aNil))))
def m__law_names_right : FM := mkF 1 5
    (sSeq (sFor (iRange rng1 (aCons (eC (.int 6)) aNil)) (gN 1) (sSeq (sSet 2 (eCall m__law_text (aCons (eVar 0) aNil)))
    (sIf (tOrM (tTru (e2 bNe (eCall bRepr (aCons (eCall m_is_name (aCons (eVar 2) aNil)) aNil)) (eCall bRepr (aCons (eCall m__law_is_name (aCons (eVar 2) aNil)) aNil)))) (tTru (e2 bNe (eCallK 0 1 (fun ws zs => m_is_name (gPerm [0] ws zs)) aNil (aCons (eVar 2) aNil)) (eCall m__law_is_name (aCons (eVar 2) aNil))))) (sRet (eC (.bl false))) sNext)))
    (sSeq (sSet 3 (eLst (aCons (eC .non) (aCons (eC (.bl true)) (aCons (eC (.bl false)) (aCons (eC (.int 0)) (aCons (eC (.int 7)) (aCons (eLst (aCons (eC (.str "a")) aNil)) (aCons (eTup (aCons (eC (.str "a")) aNil)) (aCons (eDict [((eC (.str "a")), (eC (.int 1)))]) (aCons (eLst aNil) (aCons (eTup aNil) (aCons eDict0 aNil)))))))))))))
    (sRet (e2 bEq (eLc (iVal (eVar 3)) [4] (gN 4) (tTru (e2 bNot (eCall m_is_name (aCons (eVar 4) aNil)) (eC (.bl false)))) (eVar 4)) (eLst aNil)))))
def m_law : FM := mkF 1 3
    (sSeq (sFor (iRange rng1 (aCons (eCall bMax2 (aCons (eC (.int 2)) (aCons (eCall bMin2 (aCons (eC (.int 8)) (aCons (eCall bLen (aCons (eVar 0) aNil)) aNil))) aNil))) aNil)) (gN 1) (sSeq (sSet 2 (eCall m__law_box (aCons (eCall m__law_cell (aCons (eVar 0) (aCons (eVar 1) aNil))) aNil)))
    (sIf (tOrM (tNotM (tTru (eCall m__law_names_right (aCons (eVar 2) aNil)))) (tNotM (tTru (eCall m__law_integers_right (aCons (eVar 2) aNil))))) (sRet (eC (.bl false))) sNext)))
    (sRet (eC (.bl true))))
end K02
namespace K02
open PySem PySem.Spec L2 PM
open PyProof.Rows hiding St
def top (i : Nat) : Stmt := PySem.Challenge.pw_pagemesh_k02_names_and_integers.main.body.getD i (.Pass ⟨0, 0, 0, 0⟩)
abbrev s__law_box : Stmt := top 7
abbrev N__law_box : List Str := ["_law_cell_here"]
abbrev ps__law_box : List Str := ["_law_cell_here"]
theorem sc__law_box : FnScope N__law_box ps__law_box (defScope s__law_box) := ⟨rfl, rfl, rfl, by decide +kernel, rfl, by decide +kernel, by decide +kernel⟩
abbrev FD__law_box (K : PySem.W.Frag) (fd : FuncData) : Prop := FunD K "_law_box" "_law_box" (defArgs s__law_box) (defBody s__law_box) (defScope s__law_box) [] [] (He.ga K "_law_box") fd
abbrev s__law_cell : Stmt := top 6
abbrev N__law_cell : List Str := ["_law_script", "_law_k"]
abbrev ps__law_cell : List Str := ["_law_script", "_law_k"]
theorem sc__law_cell : FnScope N__law_cell ps__law_cell (defScope s__law_cell) := ⟨rfl, rfl, rfl, by decide +kernel, rfl, by decide +kernel, by decide +kernel⟩
abbrev FD__law_cell (K : PySem.W.Frag) (fd : FuncData) : Prop := FunD K "_law_cell" "_law_cell" (defArgs s__law_cell) (defBody s__law_cell) (defScope s__law_cell) [] [] (He.ga K "_law_cell") fd
abbrev s__law_take : Stmt := top 8
abbrev N__law_take : List Str := ["_law_box_here", "_law_many", "_law_digit", "_law_mixed"]
abbrev ps__law_take : List Str := ["_law_box_here", "_law_many"]
theorem sc__law_take : FnScope N__law_take ps__law_take (defScope s__law_take) := ⟨rfl, rfl, rfl, by decide +kernel, rfl, by decide +kernel, by decide +kernel⟩
abbrev FD__law_take (K : PySem.W.Frag) (fd : FuncData) : Prop := FunD K "_law_take" "_law_take" (defArgs s__law_take) (defBody s__law_take) (defScope s__law_take) [] [] (He.ga K "_law_take") fd
abbrev s_is_integer : Stmt := top 4
abbrev N_is_integer : List Str := ["value", "low", "high"]
abbrev ps_is_integer : List Str := ["value", "low", "high"]
theorem sc_is_integer : FnScope N_is_integer ps_is_integer (defScope s_is_integer) := ⟨rfl, rfl, rfl, by decide +kernel, rfl, by decide +kernel, by decide +kernel⟩
abbrev FD_is_integer (K : PySem.W.Frag) (fd : FuncData) : Prop := FunD K "is_integer" "is_integer" (defArgs s_is_integer) (defBody s_is_integer) (defScope s_is_integer) [] [] (He.ga K "is_integer") fd
abbrev s__law_integers_right : Stmt := top 12
abbrev N__law_integers_right : List Str := ["_law_box_here", "_law_least", "_law_greatest", "_law_numbers", "_law_number", "_law_due", "_law_some", "_law_thing"]
abbrev ps__law_integers_right : List Str := ["_law_box_here"]
theorem sc__law_integers_right : FnScope N__law_integers_right ps__law_integers_right (defScope s__law_integers_right) := ⟨rfl, rfl, rfl, by decide +kernel, rfl, by decide +kernel, by decide +kernel⟩
abbrev FD__law_integers_right (K : PySem.W.Frag) (fd : FuncData) : Prop := FunD K "_law_integers_right" "_law_integers_right" (defArgs s__law_integers_right) (defBody s__law_integers_right) (defScope s__law_integers_right) [] [] (He.ga K "_law_integers_right") fd
abbrev s__law_is_name : Stmt := top 10
abbrev N__law_is_name : List Str := ["_law_word", "_law_sign"]
abbrev ps__law_is_name : List Str := ["_law_word"]
theorem sc__law_is_name : FnScope N__law_is_name ps__law_is_name (defScope s__law_is_name) := ⟨rfl, rfl, rfl, by decide +kernel, rfl, by decide +kernel, by decide +kernel⟩
abbrev FD__law_is_name (K : PySem.W.Frag) (fd : FuncData) : Prop := FunD K "_law_is_name" "_law_is_name" (defArgs s__law_is_name) (defBody s__law_is_name) (defScope s__law_is_name) [] [] (He.ga K "_law_is_name") fd
abbrev s__law_text : Stmt := top 9
abbrev N__law_text : List Str := ["_law_box_here", "_law_letters", "_law_signs", "_law_found", "_law_k", "_law_at", "_law_sign", "_law_way"]
abbrev ps__law_text : List Str := ["_law_box_here"]
theorem sc__law_text : FnScope N__law_text ps__law_text (defScope s__law_text) := ⟨rfl, rfl, rfl, by decide +kernel, rfl, by decide +kernel, by decide +kernel⟩
abbrev FD__law_text (K : PySem.W.Frag) (fd : FuncData) : Prop := FunD K "_law_text" "_law_text" (defArgs s__law_text) (defBody s__law_text) (defScope s__law_text) [] [] (He.ga K "_law_text") fd
abbrev s_is_name : Stmt := top 3
abbrev N_is_name : List Str := ["value", "letter"]
abbrev ps_is_name : List Str := ["value"]
theorem sc_is_name : FnScope N_is_name ps_is_name (defScope s_is_name) := ⟨rfl, rfl, rfl, by decide +kernel, rfl, by decide +kernel, by decide +kernel⟩
abbrev FD_is_name (K : PySem.W.Frag) (fd : FuncData) : Prop := FunD K "is_name" "is_name" (defArgs s_is_name) (defBody s_is_name) (defScope s_is_name) [] [] (He.ga K "is_name") fd
abbrev s__law_names_right : Stmt := top 11
abbrev N__law_names_right : List Str := ["_law_box_here", "_law_turn", "_law_word", "_law_some", "_law_thing"]
abbrev ps__law_names_right : List Str := ["_law_box_here"]
theorem sc__law_names_right : FnScope N__law_names_right ps__law_names_right (defScope s__law_names_right) := ⟨rfl, rfl, rfl, by decide +kernel, rfl, by decide +kernel, by decide +kernel⟩
abbrev FD__law_names_right (K : PySem.W.Frag) (fd : FuncData) : Prop := FunD K "_law_names_right" "_law_names_right" (defArgs s__law_names_right) (defBody s__law_names_right) (defScope s__law_names_right) [] [] (He.ga K "_law_names_right") fd
abbrev s_law : Stmt := top 13
abbrev N_law : List Str := ["_law_script", "_law_k", "_law_box_here"]
abbrev ps_law : List Str := ["_law_script"]
theorem sc_law : FnScope N_law ps_law (defScope s_law) := ⟨rfl, rfl, rfl, by decide +kernel, rfl, by decide +kernel, by decide +kernel⟩
abbrev FD_law (K : PySem.W.Frag) (fd : FuncData) : Prop := FunD K "law" "law" (defArgs s_law) (defBody s_law) (defScope s_law) [] [] (He.ga K "law") fd
structure Fx (K : PySem.W.Frag) (mg : Str → Option Value) : Prop where
  n_all : mg "all" = none
  n_bool : mg "bool" = none
  n_int : mg "int" = none
  n_isinstance : mg "isinstance" = none
  n_len : mg "len" = none
  n_max : mg "max" = none
  n_min : mg "min" = none
  n_range : mg "range" = none
  n_repr : mg "repr" = none
  n_str : mg "str" = none
  c_LETTERS : ∃ t, mg "LETTERS" = some (.str "abcdefghijklmnopqrstuvwxyz" t)
  c_LONGEST_NAME : ∃ t, mg "LONGEST_NAME" = some (.int 8 t)
  g__law_box : mg "_law_box" = some (.ref (He.ga K "_law_box"))
  f__law_box : ∃ fd, FD__law_box K fd
  g__law_cell : mg "_law_cell" = some (.ref (He.ga K "_law_cell"))
  f__law_cell : ∃ fd, FD__law_cell K fd
  g__law_take : mg "_law_take" = some (.ref (He.ga K "_law_take"))
  f__law_take : ∃ fd, FD__law_take K fd
  g_is_integer : mg "is_integer" = some (.ref (He.ga K "is_integer"))
  f_is_integer : ∃ fd, FD_is_integer K fd
  g__law_integers_right : mg "_law_integers_right" = some (.ref (He.ga K "_law_integers_right"))
  f__law_integers_right : ∃ fd, FD__law_integers_right K fd
  g__law_is_name : mg "_law_is_name" = some (.ref (He.ga K "_law_is_name"))
  f__law_is_name : ∃ fd, FD__law_is_name K fd
  g__law_text : mg "_law_text" = some (.ref (He.ga K "_law_text"))
  f__law_text : ∃ fd, FD__law_text K fd
  g_is_name : mg "is_name" = some (.ref (He.ga K "is_name"))
  f_is_name : ∃ fd, FD_is_name K fd
  g__law_names_right : mg "_law_names_right" = some (.ref (He.ga K "_law_names_right"))
  f__law_names_right : ∃ fd, FD__law_names_right K fd
  g_law : mg "law" = some (.ref (He.ga K "law"))
  f_law : ∃ fd, FD_law K fd
section
variable {P : Program} {w : World} {K : PySem.W.Frag} {mg : Str → Option Value} {base : Heap}
theorem b__law_box {fd : FuncData} (F : FD__law_box K fd) : Binds K fd ps__law_box [] := F.bindsN fun _ _ _ _ _ _ us hl => match us, hl with | [_], _ => rfl
theorem b__law_cell {fd : FuncData} (F : FD__law_cell K fd) : Binds K fd ps__law_cell [] := F.bindsN fun _ _ _ _ _ _ us hl => match us, hl with | [_, _], _ => rfl
theorem b__law_integers_right {fd : FuncData} (F : FD__law_integers_right K fd) : Binds K fd ps__law_integers_right [] := F.bindsN fun _ _ _ _ _ _ us hl => match us, hl with | [_], _ => rfl
theorem b__law_is_name {fd : FuncData} (F : FD__law_is_name K fd) : Binds K fd ps__law_is_name [] := F.bindsN fun _ _ _ _ _ _ us hl => match us, hl with | [_], _ => rfl
theorem b__law_names_right {fd : FuncData} (F : FD__law_names_right K fd) : Binds K fd ps__law_names_right [] := F.bindsN fun _ _ _ _ _ _ us hl => match us, hl with | [_], _ => rfl
theorem b__law_take {fd : FuncData} (F : FD__law_take K fd) : Binds K fd ps__law_take [] := F.bindsN fun _ _ _ _ _ _ us hl => match us, hl with | [_, _], _ => rfl
theorem b__law_text {fd : FuncData} (F : FD__law_text K fd) : Binds K fd ps__law_text [] := F.bindsN fun _ _ _ _ _ _ us hl => match us, hl with | [_], _ => rfl
theorem b_is_integer {fd : FuncData} (F : FD_is_integer K fd) : Binds K fd ps_is_integer [] := F.bindsN fun _ _ _ _ _ _ us hl => match us, hl with | [_, _, _], _ => rfl
theorem b_is_name {fd : FuncData} (F : FD_is_name K fd) : Binds K fd ps_is_name [] := F.bindsN fun _ _ _ _ _ _ us hl => match us, hl with | [_], _ => rfl
theorem k_is_integer_0_high_value_low {fd : FuncData} (F : FD_is_integer K fd) : KbG K fd ps_is_integer ["high", "value", "low"] 0 (gPerm [1, 2, 0]) (gPerm [1, 2, 0]) (gPerm [1, 2, 0]) := kbG_of F 0 [1, 2, 0] fun _ _ _ _ _ _ us ws h1 h2 => match us, ws, h1, h2 with | [], [_, _, _], _, _ => rfl
theorem k_is_name_0_value {fd : FuncData} (F : FD_is_name K fd) : KbG K fd ps_is_name ["value"] 0 (gPerm [0]) (gPerm [0]) (gPerm [0]) := kbG_of F 0 [0] fun _ _ _ _ _ _ us ws h1 h2 => match us, ws, h1, h2 with | [], [_], _, _ => rfl
theorem ok__law_box (T : Fx K mg) : ∃ fd, FnG P w K mg base 1 (He.ga K "_law_box") fd ps__law_box m__law_box ∧ FD__law_box K fd := by
  obtain ⟨fd, F⟩ := T.f__law_box
  refine ⟨fd, fnG_of F sc__law_box fun cdv A outer s H E hr hg => ?_, F⟩
  have tk : Takes (cxOf (L2.CX P w) P w K mg base N__law_box "_law_box" (defScope s__law_box) (He.ga K "_law_box") cdv A outer s H E) (WxOf E) := takes_of rfl rfl rfl rfl
  exact (ss_one (ss_ret (se_lst (sa_cons (se_callB (cs_max2 rfl) rfl T.n_max bt_max (sa_cons se_int (sa_cons (se_op os_sub (se_var (pv 0)) (se_op os_pow se_int se_int)) sa_nil))) (sa_cons (se_op os_mod (se_var (pv 0)) se_int) (sa_cons se_int sa_nil))))))
theorem ok__law_cell (T : Fx K mg) : ∃ fd, FnG P w K mg base 1 (He.ga K "_law_cell") fd ps__law_cell m__law_cell ∧ FD__law_cell K fd := by
  obtain ⟨fd, F⟩ := T.f__law_cell
  refine ⟨fd, fnG_of F sc__law_cell fun cdv A outer s H E hr hg => ?_, F⟩
  have tk : Takes (cxOf (L2.CX P w) P w K mg base N__law_cell "_law_cell" (defScope s__law_cell) (He.ga K "_law_cell") cdv A outer s H E) (WxOf E) := takes_of rfl rfl rfl rfl
  exact (ss_cons (ss_if (st_cmp os_lt (se_var (pv 1)) (se_callB cs_len rfl T.n_len bt_len (sa_cons (se_var (pv 0)) sa_nil)) (nomark _)) (ss_one (ss_ret (se_ix (se_var (pv 0)) (se_var (pv 1))))) ss_nil)
    (ss_one (ss_ret (se_op os_add (se_op os_mul se_int (se_var (pv 1))) se_int))))
theorem ok__law_take (T : Fx K mg) : ∃ fd, FnG P w K mg base 1 (He.ga K "_law_take") fd ps__law_take m__law_take ∧ FD__law_take K fd := by
  obtain ⟨fd, F⟩ := T.f__law_take
  refine ⟨fd, fnG_of F sc__law_take fun cdv A outer s H E hr hg => ?_, F⟩
  have tk : Takes (cxOf (L2.CX P w) P w K mg base N__law_take "_law_take" (defScope s__law_take) (He.ga K "_law_take") cdv A outer s H E) (WxOf E) := takes_of rfl rfl rfl rfl
  exact (ss_cons (ss_if (st_cmp os_gt (se_ix (se_var (pv 0)) se_int) se_int (nomark _)) (ss_cons (ss_set (i := 2) sc__law_take.nd rfl (by first | exact Or.inl rfl | exact Or.inr rfl) (se_op os_mod (se_ix (se_var (pv 0)) se_int) (se_var (pv 1))))
    (ss_cons (ss_setIx (se_var (pv 0)) se_int (se_op os_div (se_ix (se_var (pv 0)) se_int) (se_var (pv 1))))
    (ss_one (ss_ret (se_var (pv 2)))))) ss_nil)
    (ss_cons (ss_setIx (se_var (pv 0)) se_int (se_op os_add (se_ix (se_var (pv 0)) se_int) se_int))
    (ss_cons (ss_set (i := 3) sc__law_take.nd rfl (by first | exact Or.inl rfl | exact Or.inr rfl) (se_op os_mod (se_op os_pow (se_op os_add (se_op os_add (se_ix (se_var (pv 0)) se_int) (se_op os_mul se_int (se_ix (se_var (pv 0)) se_int))) se_int) se_int) se_int))
    (ss_cons (ss_set (i := 3) sc__law_take.nd rfl (by first | exact Or.inl rfl | exact Or.inr rfl) (se_op os_mod (se_op os_pow (se_op os_add (se_var (pv 3)) (se_op os_mul se_int (se_ix (se_var (pv 0)) se_int))) se_int) se_int))
    (ss_one (ss_ret (se_op os_mod (se_op os_div (se_var (pv 3)) se_int) (se_var (pv 1)))))))))
theorem ok_is_integer (T : Fx K mg) : ∃ fd, FnG P w K mg base 1 (He.ga K "is_integer") fd ps_is_integer m_is_integer ∧ FD_is_integer K fd := by
  obtain ⟨fd, F⟩ := T.f_is_integer
  refine ⟨fd, fnG_of F sc_is_integer fun cdv A outer s H E hr hg => ?_, F⟩
  have tk : Takes (cxOf (L2.CX P w) P w K mg base N_is_integer "is_integer" (defScope s_is_integer) (He.ga K "is_integer") cdv A outer s H E) (WxOf E) := takes_of rfl rfl rfl rfl
  exact (ss_one (ss_ret (se_and (se_callB cs_isi rfl T.n_isinstance bt_isinstance (sa_cons (se_var (pv 0)) (sa_cons (se_type rfl T.n_int bt_int) sa_nil))) (se_and (se_not (se_callB cs_isi rfl T.n_isinstance bt_isinstance (sa_cons (se_var (pv 0)) (sa_cons (se_type rfl T.n_bool bt_bool) sa_nil)))) (se_one (se_chain os_le os_le (se_var (pv 1)) (se_var (pv 0)) (se_var (pv 2))))))))
theorem ok__law_integers_right (T : Fx K mg) : ∃ fd, FnG P w K mg base 2 (He.ga K "_law_integers_right") fd ps__law_integers_right m__law_integers_right ∧ FD__law_integers_right K fd := by
  obtain ⟨fd, F⟩ := T.f__law_integers_right
  obtain ⟨fd__law_take, G__law_take, F__law_take⟩ := ok__law_take (P := P) (w := w) (base := base) T
  obtain ⟨fd_is_integer, G_is_integer, F_is_integer⟩ := ok_is_integer (P := P) (w := w) (base := base) T
  refine ⟨fd, fnG_of F sc__law_integers_right fun cdv A outer s H E hr hg => ?_, F⟩
  have tk : Takes (cxOf (L2.CX P w) P w K mg base N__law_integers_right "_law_integers_right" (defScope s__law_integers_right) (He.ga K "_law_integers_right") cdv A outer s H E) (WxOf E) := takes_of rfl rfl rfl rfl
  exact (ss_cons (ss_set (i := 1) sc__law_integers_right.nd rfl (by first | exact Or.inl rfl | exact Or.inr rfl) (se_ix (se_lst (sa_cons se_int (sa_cons se_int (sa_cons (se_neg se_int) (sa_cons (se_op os_pow se_int se_int) (sa_cons (se_op os_sub (se_callN G__law_take (hr.mono (by decide)) hg tk rfl T.g__law_take F__law_take.kp (b__law_take F__law_take) (sa_cons (se_var (pv 0)) (sa_cons se_int sa_nil))) se_int) sa_nil)))))) (se_callN G__law_take (hr.mono (by decide)) hg tk rfl T.g__law_take F__law_take.kp (b__law_take F__law_take) (sa_cons (se_var (pv 0)) (sa_cons se_int sa_nil)))))
    (ss_cons (ss_set (i := 2) sc__law_integers_right.nd rfl (by first | exact Or.inl rfl | exact Or.inr rfl) (se_op os_add (se_var (pv 1)) (se_ix (se_lst (sa_cons se_int (sa_cons se_int (sa_cons se_int (sa_cons (se_callN G__law_take (hr.mono (by decide)) hg tk rfl T.g__law_take F__law_take.kp (b__law_take F__law_take) (sa_cons (se_var (pv 0)) (sa_cons se_int sa_nil))) (sa_cons (se_neg se_int) (sa_cons (se_neg se_int) sa_nil))))))) (se_callN G__law_take (hr.mono (by decide)) hg tk rfl T.g__law_take F__law_take.kp (b__law_take F__law_take) (sa_cons (se_var (pv 0)) (sa_cons se_int sa_nil))))))
    (ss_cons (ss_set (i := 3) sc__law_integers_right.nd rfl (by first | exact Or.inl rfl | exact Or.inr rfl) (se_lst (sa_cons (se_op os_sub (se_var (pv 1)) se_int) (sa_cons (se_var (pv 1)) (sa_cons (se_op os_add (se_var (pv 1)) se_int) (sa_cons (se_op os_sub (se_var (pv 2)) se_int) (sa_cons (se_var (pv 2)) (sa_cons (se_op os_add (se_var (pv 2)) se_int) sa_nil))))))))
    (ss_cons (ss_for (passes_of rfl) rfl (si_val (se_op os_add (se_var (pv 3)) (se_lst (sa_cons se_int (sa_cons se_int (sa_cons (se_neg (se_op os_pow se_int se_int)) (sa_cons (se_op os_sub (se_callN G__law_take (hr.mono (by decide)) hg tk rfl T.g__law_take F__law_take.kp (b__law_take F__law_take) (sa_cons (se_var (pv 0)) (sa_cons se_int sa_nil))) se_int) sa_nil))))))) (sg_name (i := 4) sc__law_integers_right.nd rfl (by first | exact Or.inl rfl | exact Or.inr rfl)) (ss_cons (ss_set (i := 5) sc__law_integers_right.nd rfl (by first | exact Or.inl rfl | exact Or.inr rfl) (se_callB (cs_repr hr hg) rfl T.n_repr bt_repr (sa_cons (se_and (se_cmp os_le (se_var (pv 1)) (se_var (pv 4)) (nomark _)) (se_one (se_cmp os_le (se_var (pv 4)) (se_var (pv 2)) (nomark _)))) sa_nil)))
    (ss_cons (ss_if (st_cmp (os_ne hr) (se_callB (cs_repr hr hg) rfl T.n_repr bt_repr (sa_cons (se_callN G_is_integer (hr.mono (by decide)) hg tk rfl T.g_is_integer F_is_integer.kp (b_is_integer F_is_integer) (sa_cons (se_var (pv 4)) (sa_cons (se_var (pv 1)) (sa_cons (se_var (pv 2)) sa_nil)))) sa_nil)) (se_var (pv 5)) (nomark _)) (ss_one (ss_ret se_bl)) ss_nil)
    (ss_one (ss_if (st_cmp (os_ne hr) (se_callB (cs_repr hr hg) rfl T.n_repr bt_repr (sa_cons (se_callKw0 G_is_integer (hr.mono (by decide)) hg tk (k_is_integer_0_high_value_low F_is_integer) rfl rfl T.g_is_integer F_is_integer.kp (sk_cons (se_var (pv 2)) (sk_cons (se_var (pv 4)) (sk_cons (se_var (pv 1)) sk_nil)))) sa_nil)) (se_var (pv 5)) (nomark _)) (ss_one (ss_ret se_bl)) ss_nil)))))
    (ss_cons (ss_set (i := 6) sc__law_integers_right.nd rfl (by first | exact Or.inl rfl | exact Or.inr rfl) (se_lst (sa_cons se_non (sa_cons se_bl (sa_cons se_bl (sa_cons (se_callT cs_str rfl T.n_str bt_str (sa_cons (se_var (pv 1)) sa_nil)) (sa_cons (se_lst (sa_cons (se_var (pv 1)) sa_nil)) (sa_cons (se_tup (sa_cons (se_var (pv 1)) sa_nil)) (sa_cons (se_dict (sps_cons (se_var (pv 1)) (se_var (pv 1)) sps_nil)) (sa_cons se_str sa_nil))))))))))
    (ss_one (ss_ret (se_cmp (os_eq hr) (se_lc (own := [("_law_thing", 7)]) rfl sc__law_integers_right.nd (si_val (se_var (pv 6))) ⟨blkOk_by (own := [("_law_thing", 7)]) (N := N__law_integers_right) (sc := defScope s__law_integers_right) (by decide +kernel), fun _ _ _ _ _ => (sg_name (i := 7) sc__law_integers_right.nd rfl (by first | exact Or.inl rfl | exact Or.inr rfl)), fun _ _ _ _ _ => (spts_one (st_cmp os_isnot (se_callN G_is_integer (hr.mono (by decide)) hg takes0 rfl T.g_is_integer F_is_integer.kp (b_is_integer F_is_integer) (sa_cons (se_var (pv 7)) (sa_cons (se_var (pv 1)) (sa_cons (se_var (pv 2)) sa_nil)))) se_bl (nomark _))), fun _ _ _ _ _ => (se_var (pv 7))⟩) (se_lst sa_nil) (nomark _)))))))))
theorem ok__law_is_name (T : Fx K mg) : ∃ fd, FnG P w K mg base 1 (He.ga K "_law_is_name") fd ps__law_is_name m__law_is_name ∧ FD__law_is_name K fd := by
  obtain ⟨fd, F⟩ := T.f__law_is_name
  refine ⟨fd, fnG_of F sc__law_is_name fun cdv A outer s H E hr hg => ?_, F⟩
  have tk : Takes (cxOf (L2.CX P w) P w K mg base N__law_is_name "_law_is_name" (defScope s__law_is_name) (He.ga K "_law_is_name") cdv A outer s H E) (WxOf E) := takes_of rfl rfl rfl rfl
  exact (ss_one (ss_ret (se_and (se_chain os_le os_le se_int (se_callB cs_len rfl T.n_len bt_len (sa_cons (se_var (pv 0)) sa_nil)) se_int) (se_one (se_cmp (os_eq hr) (se_lc (own := [("_law_sign", 1)]) rfl sc__law_is_name.nd (si_val (se_var (pv 0))) ⟨blkOk_by (own := [("_law_sign", 1)]) (N := N__law_is_name) (sc := defScope s__law_is_name) (by decide +kernel), fun _ _ _ _ _ => (sg_name (i := 1) sc__law_is_name.nd rfl (by first | exact Or.inl rfl | exact Or.inr rfl)), fun _ _ _ _ _ => (spts_one (st_not (st_chain os_le os_le se_str (se_var (pv 1)) se_str))), fun _ _ _ _ _ => (se_var (pv 1))⟩) (se_lst sa_nil) (nomark _))))))
theorem ok__law_text (T : Fx K mg) : ∃ fd, FnG P w K mg base 2 (He.ga K "_law_text") fd ps__law_text m__law_text ∧ FD__law_text K fd := by
  obtain ⟨fd, F⟩ := T.f__law_text
  obtain ⟨fd__law_take, G__law_take, F__law_take⟩ := ok__law_take (P := P) (w := w) (base := base) T
  refine ⟨fd, fnG_of F sc__law_text fun cdv A outer s H E hr hg => ?_, F⟩
  have tk : Takes (cxOf (L2.CX P w) P w K mg base N__law_text "_law_text" (defScope s__law_text) (He.ga K "_law_text") cdv A outer s H E) (WxOf E) := takes_of rfl rfl rfl rfl
  exact (ss_cons (ss_asg (se_tup (sa_cons se_str (sa_cons (se_op os_add se_str se_str) sa_nil))) (sg_tup rfl (sg_cons (sg_name (i := 1) sc__law_text.nd rfl (by first | exact Or.inl rfl | exact Or.inr rfl)) (sg_cons (sg_name (i := 2) sc__law_text.nd rfl (by first | exact Or.inl rfl | exact Or.inr rfl)) sg_nil))))
    (ss_cons (ss_set (i := 3) sc__law_text.nd rfl (by first | exact Or.inl rfl | exact Or.inr rfl) (se_join' se_str (se_lc (own := [("_law_k", 4)]) rfl sc__law_text.nd (si_range1 rfl T.n_range (sa_cons (se_callN G__law_take (hr.mono (by decide)) hg tk rfl T.g__law_take F__law_take.kp (b__law_take F__law_take) (sa_cons (se_var (pv 0)) (sa_cons se_int sa_nil))) sa_nil)) ⟨blkOk_by (own := [("_law_k", 4)]) (N := N__law_text) (sc := defScope s__law_text) (by decide +kernel), fun _ _ _ _ _ => (sg_name (i := 4) sc__law_text.nd rfl (by first | exact Or.inl rfl | exact Or.inr rfl)), fun _ _ _ _ _ => spts_nil, fun _ _ _ _ _ => (se_ix (se_var (pv 1)) (se_callN G__law_take (hr.mono (by decide)) hg takes0 rfl T.g__law_take F__law_take.kp (b__law_take F__law_take) (sa_cons (se_var (pv 0)) (sa_cons se_int sa_nil))))⟩)))
    (ss_cons (ss_par (i := 5) (j := 6) rfl sc__law_text.nd rfl rfl (by decide) rfl rfl (sa_cons (se_callN G__law_take (hr.mono (by decide)) hg tk rfl T.g__law_take F__law_take.kp (b__law_take F__law_take) (sa_cons (se_var (pv 0)) (sa_cons (se_op os_add (se_callB cs_len rfl T.n_len bt_len (sa_cons (se_var (pv 3)) sa_nil)) se_int) sa_nil))) (sa_cons (se_ix (se_var (pv 2)) (se_callN G__law_take (hr.mono (by decide)) hg tk rfl T.g__law_take F__law_take.kp (b__law_take F__law_take) (sa_cons (se_var (pv 0)) (sa_cons se_int sa_nil)))) sa_nil)) (by rfl))
    (ss_cons (ss_set (i := 7) sc__law_text.nd rfl (by first | exact Or.inl rfl | exact Or.inr rfl) (se_callN G__law_take (hr.mono (by decide)) hg tk rfl T.g__law_take F__law_take.kp (b__law_take F__law_take) (sa_cons (se_var (pv 0)) (sa_cons se_int sa_nil))))
    (ss_cons (ss_if (st_cmp (os_eq hr) (se_var (pv 7)) se_int (nomark _)) (ss_one (ss_ret (se_op os_add (se_op os_add (se_sl (se_var (pv 3)) so_none (so_some (se_var (pv 5)))) (se_var (pv 6))) (se_sl (se_var (pv 3)) (so_some (se_op os_add (se_var (pv 5)) se_int)) so_none)))) ss_nil)
    (ss_one (ss_ret (se_ix (se_lst (sa_cons (se_var (pv 3)) (sa_cons (se_sl (se_var (pv 3)) so_none (so_some se_int)) (sa_cons (se_op os_add (se_var (pv 3)) (se_op os_mul se_str (se_op os_sub se_int (se_callB cs_len rfl T.n_len bt_len (sa_cons (se_var (pv 3)) sa_nil))))) sa_nil)))) (se_op os_sub (se_var (pv 7)) se_int)))))))))
theorem ok_is_name (T : Fx K mg) : ∃ fd, FnG P w K mg base 1 (He.ga K "is_name") fd ps_is_name m_is_name ∧ FD_is_name K fd := by
  obtain ⟨fd, F⟩ := T.f_is_name
  refine ⟨fd, fnG_of F sc_is_name fun cdv A outer s H E hr hg => ?_, F⟩
  have tk : Takes (cxOf (L2.CX P w) P w K mg base N_is_name "is_name" (defScope s_is_name) (He.ga K "is_name") cdv A outer s H E) (WxOf E) := takes_of rfl rfl rfl rfl
  exact (ss_cons (ss_if (st_w (sw_or (st_not (st_tru (se_callB cs_isi rfl T.n_isinstance bt_isinstance (sa_cons (se_var (pv 0)) (sa_cons (se_type rfl T.n_str bt_str) sa_nil))))) (sw_or1 (st_not (st_chain os_le os_le se_int (se_callB cs_len rfl T.n_len bt_len (sa_cons (se_var (pv 0)) sa_nil)) (se_globI T.c_LONGEST_NAME rfl)))))) (ss_one (ss_ret se_bl)) ss_nil)
    (ss_one (ss_ret (se_callB (cs_all rfl) rfl T.n_all bt_all (sa_cons (se_lc (own := [("letter", 1)]) rfl sc_is_name.nd (si_val (se_var (pv 0))) ⟨blkOk_by (own := [("letter", 1)]) (N := N_is_name) (sc := defScope s_is_name) (by decide +kernel), fun _ _ _ _ _ => (sg_name (i := 1) sc_is_name.nd rfl (by first | exact Or.inl rfl | exact Or.inr rfl)), fun _ _ _ _ _ => spts_nil, fun _ _ _ _ _ => (se_cmp os_in (se_var (pv 1)) (se_globS T.c_LETTERS rfl) rfl)⟩) sa_nil)))))
theorem ok__law_names_right (T : Fx K mg) : ∃ fd, FnG P w K mg base 3 (He.ga K "_law_names_right") fd ps__law_names_right m__law_names_right ∧ FD__law_names_right K fd := by
  obtain ⟨fd, F⟩ := T.f__law_names_right
  obtain ⟨fd__law_is_name, G__law_is_name, F__law_is_name⟩ := ok__law_is_name (P := P) (w := w) (base := base) T
  obtain ⟨fd__law_text, G__law_text, F__law_text⟩ := ok__law_text (P := P) (w := w) (base := base) T
  obtain ⟨fd_is_name, G_is_name, F_is_name⟩ := ok_is_name (P := P) (w := w) (base := base) T
  refine ⟨fd, fnG_of F sc__law_names_right fun cdv A outer s H E hr hg => ?_, F⟩
  have tk : Takes (cxOf (L2.CX P w) P w K mg base N__law_names_right "_law_names_right" (defScope s__law_names_right) (He.ga K "_law_names_right") cdv A outer s H E) (WxOf E) := takes_of rfl rfl rfl rfl
  exact (ss_cons (ss_for (passes_of rfl) rfl (si_range1 rfl T.n_range (sa_cons se_int sa_nil)) (sg_name (i := 1) sc__law_names_right.nd rfl (by first | exact Or.inl rfl | exact Or.inr rfl)) (ss_cons (ss_set (i := 2) sc__law_names_right.nd rfl (by first | exact Or.inl rfl | exact Or.inr rfl) (se_callN G__law_text (hr.mono (by decide)) hg tk rfl T.g__law_text F__law_text.kp (b__law_text F__law_text) (sa_cons (se_var (pv 0)) sa_nil)))
    (ss_one (ss_if (st_w (sw_or (st_cmp (os_ne hr) (se_callB (cs_repr hr hg) rfl T.n_repr bt_repr (sa_cons (se_callN G_is_name (hr.mono (by decide)) hg tk rfl T.g_is_name F_is_name.kp (b_is_name F_is_name) (sa_cons (se_var (pv 2)) sa_nil)) sa_nil)) (se_callB (cs_repr hr hg) rfl T.n_repr bt_repr (sa_cons (se_callN G__law_is_name (hr.mono (by decide)) hg tk rfl T.g__law_is_name F__law_is_name.kp (b__law_is_name F__law_is_name) (sa_cons (se_var (pv 2)) sa_nil)) sa_nil)) (nomark _)) (sw_or1 (st_cmp (os_ne hr) (se_callKw0 G_is_name (hr.mono (by decide)) hg tk (k_is_name_0_value F_is_name) rfl rfl T.g_is_name F_is_name.kp (sk_cons (se_var (pv 2)) sk_nil)) (se_callN G__law_is_name (hr.mono (by decide)) hg tk rfl T.g__law_is_name F__law_is_name.kp (b__law_is_name F__law_is_name) (sa_cons (se_var (pv 2)) sa_nil)) (nomark _))))) (ss_one (ss_ret se_bl)) ss_nil))))
    (ss_cons (ss_set (i := 3) sc__law_names_right.nd rfl (by first | exact Or.inl rfl | exact Or.inr rfl) (se_lst (sa_cons se_non (sa_cons se_bl (sa_cons se_bl (sa_cons se_int (sa_cons se_int (sa_cons (se_lst (sa_cons se_str sa_nil)) (sa_cons (se_tup (sa_cons se_str sa_nil)) (sa_cons (se_dict (sps_cons se_str se_int sps_nil)) (sa_cons (se_lst sa_nil) (sa_cons (se_tup sa_nil) (sa_cons se_dict0 sa_nil)))))))))))))
    (ss_one (ss_ret (se_cmp (os_eq hr) (se_lc (own := [("_law_thing", 4)]) rfl sc__law_names_right.nd (si_val (se_var (pv 3))) ⟨blkOk_by (own := [("_law_thing", 4)]) (N := N__law_names_right) (sc := defScope s__law_names_right) (by decide +kernel), fun _ _ _ _ _ => (sg_name (i := 4) sc__law_names_right.nd rfl (by first | exact Or.inl rfl | exact Or.inr rfl)), fun _ _ _ _ _ => (spts_one (st_cmp os_isnot (se_callN G_is_name (hr.mono (by decide)) hg takes0 rfl T.g_is_name F_is_name.kp (b_is_name F_is_name) (sa_cons (se_var (pv 4)) sa_nil)) se_bl (nomark _))), fun _ _ _ _ _ => (se_var (pv 4))⟩) (se_lst sa_nil) (nomark _))))))
theorem ok_law (T : Fx K mg) : ∃ fd, FnG P w K mg base 4 (He.ga K "law") fd ps_law m_law ∧ FD_law K fd := by
  obtain ⟨fd, F⟩ := T.f_law
  obtain ⟨fd__law_box, G__law_box, F__law_box⟩ := ok__law_box (P := P) (w := w) (base := base) T
  obtain ⟨fd__law_cell, G__law_cell, F__law_cell⟩ := ok__law_cell (P := P) (w := w) (base := base) T
  obtain ⟨fd__law_integers_right, G__law_integers_right, F__law_integers_right⟩ := ok__law_integers_right (P := P) (w := w) (base := base) T
  obtain ⟨fd__law_names_right, G__law_names_right, F__law_names_right⟩ := ok__law_names_right (P := P) (w := w) (base := base) T
  refine ⟨fd, fnG_of F sc_law fun cdv A outer s H E hr hg => ?_, F⟩
  have tk : Takes (cxOf (L2.CX P w) P w K mg base N_law "law" (defScope s_law) (He.ga K "law") cdv A outer s H E) (WxOf E) := takes_of rfl rfl rfl rfl
  exact (ss_cons (ss_for (passes_of rfl) rfl (si_range1 rfl T.n_range (sa_cons (se_callB (cs_max2 rfl) rfl T.n_max bt_max (sa_cons se_int (sa_cons (se_callB (cs_min2 rfl) rfl T.n_min bt_min (sa_cons se_int (sa_cons (se_callB cs_len rfl T.n_len bt_len (sa_cons (se_var (pv 0)) sa_nil)) sa_nil))) sa_nil))) sa_nil)) (sg_name (i := 1) sc_law.nd rfl (by first | exact Or.inl rfl | exact Or.inr rfl)) (ss_cons (ss_set (i := 2) sc_law.nd rfl (by first | exact Or.inl rfl | exact Or.inr rfl) (se_callN G__law_box (hr.mono (by decide)) hg tk rfl T.g__law_box F__law_box.kp (b__law_box F__law_box) (sa_cons (se_callN G__law_cell (hr.mono (by decide)) hg tk rfl T.g__law_cell F__law_cell.kp (b__law_cell F__law_cell) (sa_cons (se_var (pv 0)) (sa_cons (se_var (pv 1)) sa_nil))) sa_nil)))
    (ss_one (ss_if (st_w (sw_or (st_not (st_tru (se_callN G__law_names_right (hr.mono (by decide)) hg tk rfl T.g__law_names_right F__law_names_right.kp (b__law_names_right F__law_names_right) (sa_cons (se_var (pv 2)) sa_nil)))) (sw_or1 (st_not (st_tru (se_callN G__law_integers_right (hr.mono (by decide)) hg tk rfl T.g__law_integers_right F__law_integers_right.kp (b__law_integers_right F__law_integers_right) (sa_cons (se_var (pv 2)) sa_nil))))))) (ss_one (ss_ret se_bl)) ss_nil))))
    (ss_one (ss_ret se_bl)))
end
end K02
namespace K02
open PySem L2 PM
/-- the box at b: a great cell, a number to mix, draws so far -/
def Bx (b N : Nat) (h : MH) : Prop := ∃ x y z : Int, mutAt h b = some [.int x, .int y, .int z] ∧ 0 ≤ y ∧ y < 2147483629 ∧ 0 ≤ z ∧ z ≤ N
theorem Bx.mono {b N M : Nat} {h : MH} (B : Bx b N h) (l : N ≤ M) : Bx b M h := by
  obtain ⟨x, y, z, e, y0, y1, z0, z1⟩ := B
  exact ⟨x, y, z, e, y0, y1, z0, by omega⟩
theorem Bx.lt {b N : Nat} {h : MH} (B : Bx b N h) : b < h.length := by
  obtain ⟨x, y, z, e, _⟩ := B
  exact mut_lt e
theorem Bx.app {b N : Nat} {h : MH} (B : Bx b N h) (e : MH) : Bx b N (h ++ e) := by
  have lt := B.lt
  obtain ⟨x, y, z, m, r⟩ := B
  exact ⟨x, y, z, by rw [mut_app lt]; exact m, r⟩
theorem Bx.set {b N j : Nat} {h : MH} {o : Ob} (B : Bx b N h) (n : j ≠ b) : Bx b N (h.set j o) := by
  obtain ⟨x, y, z, m, r⟩ := B
  exact ⟨x, y, z, by rw [mut_set_ne n]; exact m, r⟩
theorem take {b N : Nat} {h : MH} {m : Int} (B : Bx b N h) (hN : N ≤ 1000000000) (hm : 0 < m) (h9 : m.natAbs < 2 ^ 64) :
    ∃ r h', m__law_take [.ref b, .int m] h = .ok (.int r) h' ∧ 0 ≤ r ∧ r < m ∧ Fr b h h' ∧ Bx b (N + 1) h' := by
  obtain ⟨x, y, z, e, y0, y1, z0, z1⟩ := B
  have hl := lst_of_mut e
  have lt := mut_lt e
  have hm9 : m.natAbs.log2 < 9000 := by have := log2_lt64 h9; omega
  have i0 : bIx (.ref b) (.int 0) h = .ok (.int x) h := ix_l hl rfl
  by_cases hx : 0 < x
  · refine ⟨x % m, h.set b (.lst [.int (x / m), .int y, .int z]), ?_, Int.emod_nonneg _ (by omega), Int.emod_lt_of_pos _ hm, .set _, ⟨x / m, y, z, mut_set lt, y0, y1, z0, by omega⟩⟩
    simp [m__law_take, mkF, i0, hx, mod_ii hm, div_ii hm hm9, e, ixN]
  · have h2 := mut_set (xs := [.int x, .int y, .int (z + 1)]) lt
    have hl2 := lst_of_mut h2
    have a0 : bIx (.ref b) (.int 2) h = .ok (.int z) h := ix_l hl rfl
    have a1 : bIx (.ref b) (.int 1) (h.set b (.lst [.int x, .int y, .int (z + 1)])) = .ok (.int y) _ := ix_l hl2 rfl
    have a2 : bIx (.ref b) (.int 2) (h.set b (.lst [.int x, .int y, .int (z + 1)])) = .ok (.int (z + 1)) _ := ix_l hl2 rfl
    have m1 : ∀ g, bMul (.int 15487277) (.int (z + 1)) g = .ok (.int (15487277 * (z + 1))) g := fun g => mul_small (by decide) (by omega)
    have m2 : ∀ g, bMul (.int 104723) (.int (z + 1)) g = .ok (.int (104723 * (z + 1))) g := fun g => mul_small (by decide) (by omega)
    have p1 : ∀ g, bPow (.int (y + 15487277 * (z + 1) + 187)) (.int 5) g = .ok (.int ((y + 15487277 * (z + 1) + 187) ^ 5)) g := fun g => pow_ii (by decide) (by decide) (by omega)
    generalize hk : (y + 15487277 * (z + 1) + 187) ^ 5 = k at p1
    have k0 := Int.emod_nonneg k (show (2147483647 : Int) ≠ 0 by decide)
    have k1 := Int.emod_lt_of_pos k (show (0 : Int) < 2147483647 by decide)
    have p2 : ∀ g, bPow (.int (k % 2147483647 + 104723 * (z + 1))) (.int 3) g = .ok (.int ((k % 2147483647 + 104723 * (z + 1)) ^ 3)) g := fun g => pow_ii (by decide) (by decide) (by omega)
    generalize hj : (k % 2147483647 + 104723 * (z + 1)) ^ 3 = j at p2
    refine ⟨j % 2147483587 / 16 % m, h.set b (.lst [.int x, .int y, .int (z + 1)]), ?_, Int.emod_nonneg _ (by omega), Int.emod_lt_of_pos _ hm, .set _, ⟨x, y, z + 1, h2, y0, y1, by omega, by omega⟩⟩
    have d1 : ∀ (i : Int) g, bMod (.int i) (.int 2147483647) g = .ok (.int (i % 2147483647)) g := fun i g => mod_ii (by decide)
    have d2 : ∀ (i : Int) g, bMod (.int i) (.int 2147483587) g = .ok (.int (i % 2147483587)) g := fun i g => mod_ii (by decide)
    have d3 : ∀ (i : Int) g, bDiv (.int i) (.int 16) g = .ok (.int (i / 16)) g := fun i g => div_ii (by decide) (by decide)
    have d4 : ∀ (i : Int) g, bMod (.int i) (.int m) g = .ok (.int (i % m)) g := fun i g => mod_ii hm
    simp [m__law_take, mkF, i0, hx, e, ixN, a0, a1, a2, m1, m2, p1, p2, d1, d2, d3, d4]
/-! ### names -/
def isNm (x : Str) : Bool := decide (1 ≤ x.length) && decide (x.length ≤ 8) && x.cps.toList.all fun c => decide (97 ≤ c) && decide (c ≤ 122)
theorem letters : ("abcdefghijklmnopqrstuvwxyz" : Str).cps.toList = List.range' 97 26 := by decide +kernel
theorem a_cps : ("a" : Str).cps.toList = [97] := by decide +kernel
theorem z_cps : ("z" : Str).cps.toList = [122] := by decide +kernel
theorem in_letters (c : Nat) : decide (c ∈ ("abcdefghijklmnopqrstuvwxyz" : Str).cps.toList) = (decide (97 ≤ c) && decide (c ≤ 122)) := by
  rw [letters, Bool.eq_iff_iff]
  simp
  omega
theorem in_letters' (c : Nat) : decide (c ∈ ("abcdefghijklmnopqrstuvwxyz" : Str).cps) = (decide (97 ≤ c) && decide (c ≤ 122)) := by
  rw [← in_letters]
  exact decide_eq_decide.mpr Array.mem_toList_iff.symm
abbrev low (c : Nat) : Bool := decide (97 ≤ c) && decide (c ≤ 122)
theorem nm_short {x : Str} (h : ¬ (1 ≤ x.length ∧ x.length ≤ 8)) : isNm x = false := by
  unfold isNm
  by_cases g : 1 ≤ x.length
  · have : ¬ x.length ≤ 8 := by omega
    simp [this]
  · simp [g]
theorem is_name_str {x : Str} {h : MH} (hz : x.length ≤ sizeLine) : ∃ e, m_is_name [.str x] h = .ok (.bl (isNm x)) (h ++ e) := by
  have t : bIsi [.str x, .ty "str"] h = .ok (.bl true) h := rfl
  by_cases h1 : 1 ≤ x.length ∧ x.length ≤ 8
  · have lc := lc_map (mi := itS x) (g := gN 1) (e := e2 (inG false) (eVar 1) (eC (.str "abcdefghijklmnopqrstuvwxyz"))) (σ := [some (.str x), none]) (h0 := h) x.cps.toList (fun c => .str ⟨#[c]⟩) (fun c => .bl (low c))
      (by rw [Array.length_toList]; exact hz) (fun i acc => nx_str x i _) (fun c _ acc => ⟨_, rfl, by
        simp [in_sign]
        exact in_letters' c⟩)
    have al := all_l (f := fun ks => ks.all id) (lst_new h _) (blsOf_map x.cps.toList low)
    refine ⟨[.lst (x.cps.toList.map fun c => W.bl (low c))], ?_⟩
    have h2 : (1 : Int) ≤ x.length := by omega
    have h3 : (x.length : Int) ≤ 8 := by omega
    simp only [Array.length_toList] at lc
    simp [m_is_name, mkF, t, len_s hz, h2, h3, wipeM, lc, al, isNm, h1]
  · refine ⟨[], ?_⟩
    by_cases g : (1 : Int) ≤ x.length
    · have g2 : ¬ (x.length : Int) ≤ 8 := by omega
      simp [m_is_name, mkF, t, len_s hz, g, g2, nm_short h1]
    · simp [m_is_name, mkF, t, len_s hz, g, nm_short h1]
/-- things of other kinds -/
theorem is_name_other {w : W} {h : MH} (t : bIsi [w, .ty "str"] h = .ok (.bl false) h) : m_is_name [w] h = .ok (.bl false) h := by
  simp [m_is_name, mkF, t]
theorem lt97 (c : Nat) : decide (([c] : List Nat) < [97]) = decide (c < 97) := by
  rw [decide_eq_decide, List.cons_lt_cons_iff]
  simp
theorem gt122 (c : Nat) : decide (([122] : List Nat) < [c]) = decide (122 < c) := by
  rw [decide_eq_decide, List.cons_lt_cons_iff]
  simp
theorem not_low (c : Nat) : (!decide (c < 97) && !decide (122 < c)) = low c := by
  rw [Bool.eq_iff_iff]
  simp
theorem law_name {x : Str} {h : MH} (hz : x.length ≤ sizeLine) (hc : Cp x) : ∃ e, m__law_is_name [.str x] h = .ok (.bl (isNm x)) (h ++ e) := by
  by_cases h1 : 1 ≤ x.length ∧ x.length ≤ 8
  · have lc := lc_pure (mi := itS x) (g := gN 1) (t := tNotM (tTru (eChain bLe bLe (eC (.str "a")) (eVar 1) (eC (.str "z"))))) (e := eVar 1) (σ := [some (.str x), none]) (h0 := h) x.cps.toList (fun c => .str ⟨#[c]⟩) (fun c => !low c) (fun c => .str ⟨#[c]⟩)
      (by rw [Array.length_toList]; exact hz) (fun i acc => nx_str x i _) (fun c _ acc => ⟨_, rfl, by
        rw [← not_low, ← lt97, ← gt122]
        by_cases g : decide (([c] : List Nat) < [97]) = true
        · simp [a_cps, g]
        · simp [a_cps, z_cps, g], fun _ => rfl⟩)
    have cut : (x.cps.toList.filter fun c => !low c).map (fun c => W.str ⟨#[c]⟩) = ((x.cps.toList.filter fun c => !low c).map fun c => (⟨#[c]⟩ : Str)).map W.str := by simp
    rw [cut] at lc
    generalize hl : (x.cps.toList.filter fun c => !low c).map (fun c => (⟨#[c]⟩ : Str)) = l at lc
    have al := eq_strs_nil (i := h.length) (j := (h ++ [Ob.lst (l.map W.str)]).length) (h := h ++ [Ob.lst (l.map W.str)] ++ [Ob.lst []]) (l := l)
      (by rw [lst_app (by simp)]; exact lst_new h _) (lst_new _ _) (by
        intro y hy
        rw [← hl] at hy
        obtain ⟨c, h3, rfl⟩ := List.mem_map.mp hy
        exact Cp.one (hc c (List.mem_filter.mp h3).1))
    have fin : decide (l = []) = isNm x := by
      rw [← hl, Bool.eq_iff_iff]
      simp [isNm, h1, List.filter_eq_nil_iff]
      exact ⟨fun h i hi => h _ (Array.getElem_mem hi), fun h a ha => by
        obtain ⟨i, hi, rfl⟩ := Array.mem_iff_getElem.mp ha
        exact h i hi⟩
    refine ⟨[Ob.lst (l.map W.str)] ++ [Ob.lst []], ?_⟩
    have h2 : (1 : Int) ≤ x.length := by omega
    have h3 : (x.length : Int) ≤ 8 := by omega
    simp only [Array.length_toList] at lc
    rw [fin] at al
    rw [← List.append_assoc]
    simp at al
    simp [m__law_is_name, mkF, len_s hz, h2, h3, wipeM, lc, al]
  · refine ⟨[], ?_⟩
    by_cases g : (1 : Int) ≤ x.length
    · have g2 : ¬ (x.length : Int) ≤ 8 := by omega
      simp [m__law_is_name, mkF, len_s hz, g, g2, nm_short h1]
    · simp [m__law_is_name, mkF, len_s hz, g, nm_short h1]
/-! ### the drawn texts -/
def Sm (x : Str) : Prop := x.length ≤ 30 ∧ Cp x
theorem odd_cps : (("AZ09 _-.~'{`" : Str) ++ ("\n" : Str)).cps.toList = [65, 90, 48, 57, 32, 95, 45, 46, 126, 39, 123, 96, 10] := by decide +kernel
theorem atI_lt {α : Type} {xs : List α} {k : Int} (h0 : 0 ≤ k) (h1 : k < xs.length) : ∃ a, atI xs k = some a ∧ a ∈ xs := by
  have e : ixN xs.length k = some k.toNat := by
    unfold ixN
    rw [if_pos h0, if_pos h1]
  have lt : k.toNat < xs.length := by omega
  exact ⟨xs[k.toNat], by simp [atI, e, lt], List.getElem_mem lt⟩
theorem text {b N : Nat} {h : MH} (B : Bx b N h) (hN : N ≤ 100000000) :
    ∃ x h', m__law_text [.ref b] h = .ok (.str x) h' ∧ Sm x ∧ Fr b h h' ∧ Bx b (N + 20) h' := by
  obtain ⟨n, h1, e1, n0, n1, F1, B1⟩ := take (m := 12) B (by omega) (by decide) (by decide)
  let σ : MS := [some (.ref b), some (.str "abcdefghijklmnopqrstuvwxyz"), some (.str ("AZ09 _-.~'{`" ++ "\n")), none, none, none, none, none]
  have blt := B1.lt
  obtain ⟨h2, acc, e2, m2, l, rfl, l1, l2, F2, B2⟩ := lc_inv (mi := itR 0 n.toNat) (g := gN 4) (t := tYesM) (e := e2 bIx (eVar 1) (eCall m__law_take (aCons (eVar 0) (aCons (eC (.int 26)) aNil)))) (σ := σ) (j := h1.length)
    (fun i h acc => ∃ l : List Str, acc = l.map W.str ∧ l.length = i ∧ (∀ x ∈ l, x.length = 1 ∧ Cp x) ∧ Fr b h1 h ∧ Bx b (N + 1 + i) h) n.toNat
    (fun h acc _ => by rw [nx_rng]; simp) (fun i h acc hi hm ⟨l, e1, l1, l2, F, B⟩ => by
      obtain ⟨r, h3, e3, r0, r1, F3, B3⟩ := take (m := 26) B (by omega) (by decide) (by decide)
      obtain ⟨c, a1, a2⟩ := atI_lt (xs := ("abcdefghijklmnopqrstuvwxyz" : Str).cps.toList) (k := r) r0 (by rw [letters]; simpa using r1)
      have c1 : c < 0x110000 := by
        rw [letters, List.mem_range'_1] at a2
        omega
      have i1 : bIx (.str "abcdefghijklmnopqrstuvwxyz") (.int r) h3 = .ok (.str ⟨#[c]⟩) h3 := ix_s (by rw [line_eq]; decide) a1
      have ne : h1.length ≠ b := by omega
      refine ⟨.int i, _, by rw [nx_rng]; simp [hi], rfl, .inr ⟨h, .str ⟨#[c]⟩, h3, rfl, ?_, F3.mut ne hm, ?_, l ++ [⟨#[c]⟩], by simp [e1], by simp [l1], ?_, (F.trans F3).set_new (Nat.le_refl _), (B3.mono (by omega)).set ne⟩⟩
      · simp [σ, e3, i1]
      · rw [e1, List.length_map, l1, line_eq]
        omega
      · intro x hx
        rw [List.mem_append, List.mem_singleton] at hx
        rcases hx with hx | rfl
        · exact l2 x hx
        · exact ⟨rfl, Cp.one c1⟩) n.toNat 0 (h1 ++ [.lst []]) [] (by omega) (mut_new _ _) ⟨[], rfl, rfl, fun _ hx => absurd hx List.not_mem_nil, Fr.app _, (B1.app _).mono (by omega)⟩
  simp only [σ] at e2
  have rg : ∀ g, rng1 [.int n] g = .ok (itR 0 n.toNat) g := fun g => rng1_i (by omega) (by omega)
  have jn := join_l (lst_of_mut m2) (strsOf_map l) (by rw [sum_ones fun x hx => (l2 x hx).1]; omega)
  have tl : (Txt.join "" l).length = n.toNat := (join_len fun x hx => (l2 x hx).1).trans l1
  have tc : Cp (Txt.join "" l) := Cp.join fun x hx => (l2 x hx).2
  generalize Txt.join "" l = t at jn tl tc
  obtain ⟨r3, h3, e3, r30, r31, F3, B3⟩ := take (m := (t.length : Int) + 1) B2 (by omega) (by omega) (by omega)
  obtain ⟨r4, h4, e4, r40, r41, F4, B4⟩ := take (m := 13) B3 (by omega) (by omega) (by omega)
  obtain ⟨c, a1, a2⟩ := atI_lt (xs := (("AZ09 _-.~'{`" : Str) ++ ("\n" : Str)).cps.toList) (k := r4) r40 (by rw [odd_cps]; simpa using r41)
  have c1 : c < 0x110000 := by
    rw [odd_cps] at a2
    have : ∀ c ∈ [65, 90, 48, 57, 32, 95, 45, 46, 126, 39, 123, 96, 10], c < 0x110000 := by decide
    exact this c a2
  have i4 : bIx (.str ("AZ09 _-.~'{`" ++ "\n")) (.int r4) h4 = .ok (.str ⟨#[c]⟩) h4 := ix_s (by rw [line_eq]; decide) a1
  obtain ⟨r5, h5, e5, r50, r51, F5, B5⟩ := take (m := 4) B4 (by omega) (by omega) (by omega)
  have FF : Fr b h h5 := (((F1.trans F2).trans F3).trans F4).trans F5
  have BB : Bx b (N + 20) h5 := B5.mono (by omega)
  have tz : t.length ≤ sizeLine := by rw [line_eq]; omega
  have ad : ∀ g, bAdd (.str "AZ09 _-.~'{`") (.str "\n") g = .ok (.str ("AZ09 _-.~'{`" ++ "\n")) g := fun g => add_ss (by rw [line_eq]; decide)
  have ln : ∀ g, bLen [.str t] g = .ok (.int t.length) g := fun g => len_s tz
  have sl : ∀ lo hi g, bSl (.str t) lo hi g = .ok (.str (cutS t lo hi)) g := fun lo hi g => sl_s tz
  have cl := cut_len t
  by_cases r5z : r5 = 0
  · subst r5z
    refine ⟨cutS t none (some r3) ++ ⟨#[c]⟩ ++ cutS t (some (r3 + 1)) none, h5, ?_, ⟨?_, ((tc.cut _ _).app (Cp.one c1)).app (tc.cut _ _)⟩, FF, BB⟩
    · simp [m__law_text, mkF, ad, e1, wipeM, line_eq, rg]
      rw [e2]
      simp [jn, ln, e3, e4, i4, e5, sl]
      rw [add_ss (by have := cl none (some r3); rw [one_len, line_eq]; omega)]
      simp
      rw [add_ss (by have := cl none (some r3); have := cl (some (r3 + 1)) none; rw [app_len, one_len, line_eq]; omega)]
      rfl
    · have := cl none (some r3)
      have := cl (some (r3 + 1)) none
      rw [app_len, app_len, one_len]
      omega
  · have pick : ∃ x h6, bIx (.ref h5.length) (.int (r5 - 1)) (h5 ++ [.lst [.str t, .str (cutS t none (some 8)), .str (t ++ repS "a" (8 - t.length))]]) = .ok (.str x) h6 ∧ Sm x ∧ Fr b h5 h6 ∧ Bx b (N + 20) h6 := by
      have a1 : Cp "a" := by
        intro c hc
        rw [a_cps, List.mem_singleton] at hc
        omega
      have k3 : r5 = 1 ∨ r5 = 2 ∨ r5 = 3 := by omega
      rcases k3 with rfl | rfl | rfl
      · exact ⟨_, _, ix_l (lst_new _ _) rfl, ⟨by omega, tc⟩, Fr.app _, BB.app _⟩
      · exact ⟨_, _, ix_l (lst_new _ _) rfl, ⟨by have := cl none (some 8); omega, tc.cut _ _⟩, Fr.app _, BB.app _⟩
      · exact ⟨_, _, ix_l (lst_new _ _) rfl, ⟨by rw [app_len, rep_len, show ("a" : Str).length = 1 from rfl]; omega, tc.app (a1.rep _)⟩, Fr.app _, BB.app _⟩
    obtain ⟨x, h6, e6, x6, F6, B6⟩ := pick
    refine ⟨x, h6, ?_, x6, FF.trans F6, B6⟩
    simp [m__law_text, mkF, ad, e1, wipeM, line_eq, rg]
    rw [e2]
    simp [jn, ln, e3, e4, i4, e5, sl, r5z]
    rw [mul_si (by omega) (by omega) (by rw [line_eq, show ("a" : Str).length = 1 from rfl]; omega)]
    simp
    rw [add_ss (by rw [rep_len, show ("a" : Str).length = 1 from rfl, line_eq]; omega)]
    simp [line_eq, e6]
/-- grown -/
def Gw (h h' : MH) : Prop := ∃ e, h' = h ++ e
theorem Gw.fr {h h' : MH} (g : Gw h h') {b : Nat} : Fr b h h' := by
  obtain ⟨e, rfl⟩ := g; exact .app e
theorem Gw.bx {h h' : MH} (g : Gw h h') {b N : Nat} (B : Bx b N h) : Bx b N h' := by
  obtain ⟨e, rfl⟩ := g; exact B.app e
theorem isn (x : Str) (h : MH) (hz : x.length ≤ sizeLine) : ∃ h', m_is_name [.str x] h = .ok (.bl (isNm x)) h' ∧ Gw h h' := by
  obtain ⟨e, n⟩ := is_name_str (h := h) hz
  exact ⟨_, n, e, rfl⟩
theorem lsn (x : Str) (h : MH) (hz : x.length ≤ sizeLine) (hc : Cp x) : ∃ h', m__law_is_name [.str x] h = .ok (.bl (isNm x)) h' ∧ Gw h h' := by
  obtain ⟨e, n⟩ := law_name (h := h) hz hc
  exact ⟨_, n, e, rfl⟩
theorem names_right {b N : Nat} {h : MH} (B : Bx b N h) (hN : N ≤ 10000000) :
    ∃ h', m__law_names_right [.ref b] h = .ok (.bl true) h' ∧ Fr b h h' ∧ Bx b (N + 200) h' := by
  obtain ⟨σ, h1, e1, ⟨a, c, es, F, B1⟩⟩ := for_inv (mi := itR 0 6) (g := gN 1) (body := (sSeq (sSet 2 (eCall m__law_text (aCons (eVar 0) aNil)))
    (sIf (tOrM (tTru (e2 bNe (eCall bRepr (aCons (eCall m_is_name (aCons (eVar 2) aNil)) aNil)) (eCall bRepr (aCons (eCall m__law_is_name (aCons (eVar 2) aNil)) aNil)))) (tTru (e2 bNe (eCallK 0 1 (fun ws zs => m_is_name (gPerm [0] ws zs)) aNil (aCons (eVar 2) aNil)) (eCall m__law_is_name (aCons (eVar 2) aNil))))) (sRet (eC (.bl false))) sNext)))
    (fun i σ g => ∃ a c, σ = [some (.ref b), a, c, none, none] ∧ Fr b h g ∧ Bx b (N + 20 * i) g) 6
    (fun σ g _ => by rw [nx_rng]; simp) (fun i σ g hi ⟨a, c, e, F, B⟩ => by
      subst e
      obtain ⟨x, h1, e1, ⟨x1, x2⟩, F1, B1⟩ := text B (by omega)
      have xz : x.length ≤ sizeLine := by rw [line_eq]; omega
      obtain ⟨h2, n2, g2⟩ := isn x h1 xz
      obtain ⟨h3, n3, g3⟩ := lsn x h2 xz x2
      obtain ⟨h4, n4, g4⟩ := isn x h3 xz
      obtain ⟨h5, n5, g5⟩ := lsn x h4 xz x2
      refine ⟨.int i, _, by rw [nx_rng]; simp [hi], rfl, [some (.ref b), some (.int i), some (.str x), none, none], h5, ?_, _, _, rfl, ((((F.trans F1).trans g2.fr).trans g3.fr).trans g4.fr).trans g5.fr, (g5.bx (g4.bx (g3.bx (g2.bx B1)))).mono (by omega)⟩
      simp [e1, n2, n3, gPerm, n4, n5]) 6 0 [some (.ref b), none, none, none, none] h (by omega) ⟨_, _, rfl, .refl, B⟩
  subst es
  have rg : ∀ g, rng1 [.int 6] g = .ok (itR 0 6) g := fun g => rng1_i (by omega) (by omega)
  have d1 := fun σ h => dict1 (m := eC (.str "a")) (n := eC (.int 1)) (σ := σ) (h := h) (fun _ => rfl) (fun _ => rfl) rfl
  simp [m__law_names_right, mkF, rg, e1, line_eq, d1]
  generalize hl : [Ob.lst [W.str (Str.ofString "a")], Ob.dct [(Sum.inr (Str.ofString "a"), W.int 1)], Ob.lst [], Ob.dct [],
    Ob.lst [W.non, W.bl true, W.bl false, W.int 0, W.int 7, W.ref (List.length h1), W.tup [W.str (Str.ofString "a")], W.ref (List.length h1 + 1), W.ref (List.length h1 + 1 + 1), W.tup [], W.ref (List.length h1 + 1 + 1 + 1)]] = l
  generalize hL : [W.non, W.bl true, W.bl false, W.int 0, W.int 7, W.ref (List.length h1), W.tup [W.str (Str.ofString "a")], W.ref (List.length h1 + 1), W.ref (List.length h1 + 1 + 1), W.tup [], W.ref (List.length h1 + 1 + 1 + 1)] = L
  have l4 : l[4]? = some (.lst L) := by rw [← hl, ← hL]; rfl
  have at4 : ∀ k, lstAt (h1 ++ l ++ k) (h1.length + 4) = some L := fun k => lst_at (by rw [List.append_assoc, get_app _ rfl, List.getElem?_append_left (by rw [← hl]; simp)]; exact l4)
  have lc := lc_none (mi := itL (h1.length + 4) L) (g := gN 4) (t := tTru (e2 bNot (eCall m_is_name (aCons (eVar 4) aNil)) (eC (W.bl false)))) (e := eVar 4) (σ := [some (W.ref b), a, c, some (W.ref (List.length h1 + 4)), none]) (h0 := h1 ++ l) L id
    (by rw [← hL, line_eq]; simp) (fun i acc => nx_lst (at4 _)) (fun w hw acc => ⟨_, rfl, by
      have io : bIsi [w, .ty "str"] (h1 ++ l ++ [.lst acc]) = .ok (.bl false) (h1 ++ l ++ [.lst acc]) := by
        rw [List.append_assoc]
        rw [← hL] at hw
        simp only [List.mem_cons, List.not_mem_nil, or_false] at hw
        rcases hw with rfl | rfl | rfl | rfl | rfl | rfl | rfl | rfl | rfl | rfl | rfl
        · rfl
        · rfl
        · rfl
        · rfl
        · rfl
        · exact isi_l (lst_at ((get_app (k := 0) _ rfl).trans (by rw [← hl]; rfl)))
        · rfl
        · exact isi_d ((get_app (k := 1) _ rfl).trans (by rw [← hl]; rfl))
        · exact isi_l (lst_at ((get_app (k := 2) _ rfl).trans (by rw [← hl]; rfl)))
        · rfl
        · exact isi_d ((get_app (k := 3) _ rfl).trans (by rw [← hl]; rfl))
      have q := is_name_other io
      simp at q
      simp [q]⟩)
  have en := eq_nils (i := (h1 ++ l).length) (j := (h1 ++ l ++ [Ob.lst []]).length) (h := h1 ++ l ++ [Ob.lst []] ++ [Ob.lst []]) (by rw [lst_app (by simp)]; exact lst_new _ _) (lst_new _ _)
  refine ⟨h1 ++ l ++ [Ob.lst []] ++ [Ob.lst []], ?_, ((F.trans (.app l)).trans (.app _)).trans (.app _), (((B1.app l).app _).app _).mono (by omega)⟩
  have it4 : iterW (.ref (h1.length + 4)) (h1 ++ l) = .ok (itL (h1.length + 4) L) (h1 ++ l) := iter_l (by simpa using at4 [])
  simp at lc en
  simp [it4, wipeM, lc, en]
/-! ### integers -/
theorem is_int (v lo hi : Int) (h : MH) : m_is_integer [.int v, .int lo, .int hi] h = .ok (.bl (decide (lo ≤ v) && decide (v ≤ hi))) h := by
  have t1 : bIsi [.int v, .ty "int"] h = .ok (.bl true) h := rfl
  have t2 : bIsi [.int v, .ty "bool"] h = .ok (.bl false) h := rfl
  by_cases g : lo ≤ v
  · simp [m_is_integer, mkF, t1, t2, g]
  · simp [m_is_integer, mkF, t1, t2, g]
theorem is_int_no {w : W} {lo hi : Int} {h : MH} {j k : Bool} (t1 : bIsi [w, .ty "int"] h = .ok (.bl k) h) (t2 : bIsi [w, .ty "bool"] h = .ok (.bl j) h) (hk : k = true → j = true) : m_is_integer [w, .int lo, .int hi] h = .ok (.bl false) h := by
  cases k with
  | false => simp [m_is_integer, mkF, t1]
  | true =>
    rw [hk rfl] at t2
    simp [m_is_integer, mkF, t1, t2]
/-- one of a new list's integers -/
theorem pick {b N : Nat} {h : MH} {m : Int} (A : List Int) (B : Bx b N h) (hN : N ≤ 100000000) (hm : m = A.length) (h0 : 0 < m) (h9 : m < 100) :
    ∃ r x h', m__law_take [.ref b, .int m] (h ++ [.lst (A.map W.int)]) = .ok (.int r) h' ∧ bIx (.ref h.length) (.int r) h' = .ok (.int x) h' ∧ x ∈ A ∧ Fr b h h' ∧ Bx b (N + 1) h' := by
  obtain ⟨r, h', e, r0, r1, F, B1⟩ := take (m := m) (B.app [.lst (A.map W.int)]) (by omega) h0 (by omega)
  obtain ⟨x, a1, a2⟩ := atI_lt (xs := A) (k := r) r0 (by omega)
  have lt := B.lt
  refine ⟨r, x, h', e, ix_l (F.lst (by omega) (lst_new _ _)) ?_, a2, (Fr.app _).trans F, B1⟩
  unfold atI at *
  rw [List.length_map]
  cases q : ixN A.length r with
  | none => rw [q] at a1; cases a1
  | some j =>
    rw [q] at a1
    simp at a1
    simp [a1]
def iBody : SM := (sSeq (sSet 5 (eCall bRepr (aCons (eAnd (e2 bLe (eVar 1) (eVar 4)) (e2 bLe (eVar 4) (eVar 2))) aNil)))
    (sSeq (sIf (tTru (e2 bNe (eCall bRepr (aCons (eCall m_is_integer (aCons (eVar 4) (aCons (eVar 1) (aCons (eVar 2) aNil)))) aNil)) (eVar 5))) (sRet (eC (.bl false))) sNext)
    (sIf (tTru (e2 bNe (eCall bRepr (aCons (eCallK 0 3 (fun ws zs => m_is_integer (gPerm [1, 2, 0] ws zs)) aNil (aCons (eVar 2) (aCons (eVar 4) (aCons (eVar 1) aNil)))) aNil)) (eVar 5))) (sRet (eC (.bl false))) sNext)))
/-- each integer of a list -/
theorem iLoop {b i k : Nat} {h : MH} {lo hi : Int} (A : List Int) (e : lstAt h i = some (A.map W.int)) :
    ∃ a c, forGo (itL i (A.map W.int)) (gN 4) iBody A.length 0 [some (.ref b), some (.int lo), some (.int hi), some (.ref k), none, none, none, none] h = .nx [some (.ref b), some (.int lo), some (.int hi), some (.ref k), a, c, none, none] h := by
  obtain ⟨σ, h', e1, a, c, rfl, rfl⟩ := for_inv (mi := itL i (A.map W.int)) (g := gN 4) (body := iBody)
    (fun _ σ g => ∃ a c, σ = [some (.ref b), some (.int lo), some (.int hi), some (.ref k), a, c, none, none] ∧ g = h) A.length
    (fun σ g ⟨a, c, _, e1⟩ => by rw [nx_lst (e1 ▸ e)]; simp) (fun j σ g hj ⟨a, c, e1, e2⟩ => by
      subst e1 e2
      refine ⟨.int A[j], _, by rw [nx_lst e]; simp [hj], rfl, [some (.ref b), some (.int lo), some (.int hi), some (.ref k), some (.int A[j]), some (.str (PyData.shown (.bool (decide (lo ≤ A[j]) && decide (A[j] ≤ hi))))), none, none], g, ?_, _, _, rfl, rfl⟩
      by_cases q : lo ≤ A[j]
      · simp [iBody, is_int, gPerm, q]
      · simp [iBody, is_int, gPerm, q]) A.length 0 _ h (by omega) ⟨none, none, rfl, rfl⟩
  exact ⟨a, c, e1⟩
theorem ints_right {b N : Nat} {h : MH} (B : Bx b N h) (hN : N ≤ 10000000) :
    ∃ h', m__law_integers_right [.ref b] h = .ok (.bl true) h' ∧ Fr b h h' ∧ Bx b (N + 10) h' := by
  obtain ⟨r1, h1, e1, r10, r11, F1, B1⟩ := take (m := 2000) B (by omega) (by decide) (by decide)
  have p29 : ∀ g, bPow (.int 10) (.int 29) g = .ok (.int 100000000000000000000000000000) g := fun g => rfl
  obtain ⟨r2, low, h2, e2, i2, m2, F2, B2⟩ := pick (m := 5) [0, 1, -5, 100000000000000000000000000000, r1 - 1000] B1 (by omega) rfl (by decide) (by decide)
  have b2 : -2000 ≤ low ∧ low ≤ 100000000000000000000000000000 := by
    simp only [List.mem_cons, List.not_mem_nil, or_false] at m2
    omega
  obtain ⟨r3, h3, e3, r30, r31, F3, B3⟩ := take (m := 3000) B2 (by omega) (by decide) (by decide)
  obtain ⟨r4, d, h4, e4, i4, m4, F4, B4⟩ := pick (m := 6) [0, 1, 7, r3, -1, -9] B3 (by omega) rfl (by decide) (by decide)
  generalize hhi : low + d = hi
  have B5 := B4.app [.lst [.int (low - 1), .int low, .int (low + 1), .int (hi - 1), .int hi, .int (hi + 1)]]
  obtain ⟨r5, h5, e5, r50, r51, F5, B6⟩ := take (m := 4000) B5 (by omega) (by decide) (by decide)
  have lt4 := B4.lt
  simp at e2 e4
  have s1 := F5.mut (by omega) (mut_new h4 [.int (low - 1), .int low, .int (low + 1), .int (hi - 1), .int hi, .int (hi + 1)])
  have lt5 := mut_lt s1
  have s2 : bAdd (.ref h4.length) (.ref h5.length) (h5 ++ [.lst [.int 0, .int 1, .int (-100000000000000000000000000000), .int (r5 - 2000)]]) = .ok (.ref (h5.length + 1)) (h5 ++ [.lst [.int 0, .int 1, .int (-100000000000000000000000000000), .int (r5 - 2000)]] ++ [.lst [.int (low - 1), .int low, .int (low + 1), .int (hi - 1), .int hi, .int (hi + 1), .int 0, .int 1, .int (-100000000000000000000000000000), .int (r5 - 2000)]]) := by
    simp [bAdd, mut_app lt5, s1, line_eq]
  simp [m__law_integers_right, mkF, e1, p29, line_eq, e2, i2, e3, e4, i4, hhi, e5, s2]
  generalize hA : [low - 1, low, low + 1, hi - 1, hi, hi + 1, 0, 1, -100000000000000000000000000000, r5 - 2000] = A
  have mA : [W.int (low - 1), W.int low, W.int (low + 1), W.int (hi - 1), W.int hi, W.int (hi + 1), W.int 0, W.int 1, W.int (-100000000000000000000000000000), W.int (r5 - 2000)] = A.map W.int := by rw [← hA]; rfl
  rw [mA]
  generalize hl : [Ob.lst [W.int 0, W.int 1, W.int (-100000000000000000000000000000), W.int (r5 - 2000)], Ob.lst (A.map W.int)] = l
  have at1 : lstAt (h5 ++ l) (h5.length + 1) = some (A.map W.int) := lst_at (by rw [get_app _ rfl, ← hl]; rfl)
  obtain ⟨a, c, lp⟩ := iLoop (b := b) (k := h4.length) (lo := low) (hi := hi) A at1
  unfold iBody at lp
  have st : ∀ g, bStr [.int low] g = .ok (.str (toString low)) g := fun g => if_pos (by
    have q : low.natAbs < 2 ^ 100 := by omega
    by_cases e : low.natAbs = 0
    · rw [e]; decide
    · have := (Nat.log2_lt e).mpr q
      omega)
  have d1 := fun h => dict1 (m := eVar 1) (n := eVar 1) (σ := [some (.ref b), some (.int low), some (.int hi), some (.ref h4.length), a, c, none, none]) (h := h) (fun _ => rfl) (fun _ => rfl) rfl
  have F6 : Fr b h5 (h5 ++ l) := .app _
  have B7 := B6.app l
  rw [iter_l at1]
  generalize h5 ++ l = g at *
  simp [lp, st, d1, line_eq]
  generalize hm : [Ob.lst [W.int low], Ob.dct [(Sum.inl low, W.int low)], Ob.lst [W.non, W.bl true, W.bl false, W.str (Str.ofString low.repr), W.ref (List.length g), W.tup [W.int low], W.ref (List.length g + 1), W.str (Str.ofString "")]] = m
  generalize hL : [W.non, W.bl true, W.bl false, W.str (Str.ofString low.repr), W.ref (List.length g), W.tup [W.int low], W.ref (List.length g + 1), W.str (Str.ofString "")] = L
  have l2 : m[2]? = some (.lst L) := by rw [← hm, ← hL]; rfl
  have at2 : ∀ k, lstAt (g ++ m ++ k) (g.length + 2) = some L := fun k => lst_at (by rw [List.append_assoc, get_app _ rfl, List.getElem?_append_left (by rw [← hm]; simp)]; exact l2)
  have lc := lc_none (mi := itL (g.length + 2) L) (g := gN 7) (t := tTru (PM.e2 bNot (eCall m_is_integer (aCons (eVar 7) (aCons (eVar 1) (aCons (eVar 2) aNil)))) (eC (W.bl false)))) (e := eVar 7) (σ := [some (W.ref b), some (.int low), some (.int hi), some (W.ref (List.length h4)), a, c, some (W.ref (List.length g + 2)), none]) (h0 := g ++ m) L id
    (by rw [← hL, line_eq]; simp) (fun i acc => nx_lst (at2 _)) (fun w hw acc => ⟨_, rfl, by
      have io : ∃ k j, bIsi [w, .ty "int"] (g ++ m ++ [.lst acc]) = .ok (.bl k) (g ++ m ++ [.lst acc]) ∧ bIsi [w, .ty "bool"] (g ++ m ++ [.lst acc]) = .ok (.bl j) (g ++ m ++ [.lst acc]) ∧ (k = true → j = true) := by
        rw [List.append_assoc]
        rw [← hL] at hw
        simp only [List.mem_cons, List.not_mem_nil, or_false] at hw
        rcases hw with rfl | rfl | rfl | rfl | rfl | rfl | rfl | rfl
        · exact ⟨false, false, rfl, rfl, fun z => z⟩
        · exact ⟨true, true, rfl, rfl, fun z => z⟩
        · exact ⟨true, true, rfl, rfl, fun z => z⟩
        · exact ⟨false, false, rfl, rfl, fun z => z⟩
        · have q := lst_at ((get_app (h := g) (k := 0) (m ++ [.lst acc]) rfl).trans (by rw [← hm]; rfl))
          exact ⟨false, false, isi_l q, isi_l q, fun z => z⟩
        · exact ⟨false, false, rfl, rfl, fun z => z⟩
        · have q : (g ++ (m ++ [.lst acc]))[g.length + 1]? = some (.dct [(Sum.inl low, W.int low)]) := (get_app (k := 1) _ rfl).trans (by rw [← hm]; rfl)
          exact ⟨false, false, isi_d q, isi_d q, fun z => z⟩
        · exact ⟨false, false, rfl, rfl, fun z => z⟩
      obtain ⟨k, j, t1, t2, t3⟩ := io
      have q := is_int_no (lo := low) (hi := hi) t1 t2 t3
      simp at q
      simp [q]⟩)
  have en := eq_nils (i := (g ++ m).length) (j := (g ++ m ++ [Ob.lst []]).length) (h := g ++ m ++ [Ob.lst []] ++ [Ob.lst []]) (by rw [lst_app (by simp)]; exact lst_new _ _) (lst_new _ _)
  refine ⟨g ++ m ++ [Ob.lst []] ++ [Ob.lst []], ?_, (((((((((F1.trans F2).trans F3).trans F4).trans (.app _)).trans F5).trans F6).trans (.app m)).trans (.app _)).trans (.app _)), (((B7.app m).app _).app _).mono (by omega)⟩
  have it2 : iterW (.ref (g.length + 2)) (g ++ m) = .ok (itL (g.length + 2) L) (g ++ m) := iter_l (by simpa using at2 [])
  simp at lc en
  simp [it2, wipeM, lc, en]
/-! ### the law -/
theorem cell {i : Nat} {h : MH} {ns : List Int} {k : Int} (e : lstAt h i = some (ns.map W.int)) (h0 : 0 ≤ k) (h9 : k < 100) : ∃ c, m__law_cell [.ref i, .int k] h = .ok (.int c) h := by
  by_cases g : k < ns.length
  · obtain ⟨a, a1, a2⟩ := atI_lt (xs := ns.map W.int) (k := k) h0 (by simpa using g)
    obtain ⟨c, _, rfl⟩ := List.mem_map.mp a2
    exact ⟨c, by simp [m__law_cell, mkF, len_l e, g, ix_l e a1]⟩
  · have m1 : ∀ g, bMul (.int 15487277) (.int k) g = .ok (.int (15487277 * k)) g := fun g => mul_small (by decide) (by omega)
    exact ⟨15487277 * k + 187, by simp [m__law_cell, mkF, len_l e, g, m1]⟩
theorem box (c : Int) (h : MH) : ∃ h', m__law_box [.int c] h = .ok (.ref h.length) h' ∧ Gw h h' ∧ Bx h.length 0 h' := by
  have p18 : ∀ g, bPow (.int 10) (.int 18) g = .ok (.int 1000000000000000000) g := fun g => rfl
  have d : ∀ g, bMod (.int c) (.int 2147483629) g = .ok (.int (c % 2147483629)) g := fun g => mod_ii (by decide)
  refine ⟨h ++ [.lst [.int (if c - 1000000000000000000 > 0 then c - 1000000000000000000 else 0), .int (c % 2147483629), .int 0]], by simp [m__law_box, mkF, p18, d, line_eq], ⟨_, rfl⟩, _, _, _, mut_new _ _, Int.emod_nonneg _ (by decide), Int.emod_lt_of_pos _ (by decide), by decide, by decide⟩
def lBody : SM := (sSeq (sSet 2 (eCall m__law_box (aCons (eCall m__law_cell (aCons (eVar 0) (aCons (eVar 1) aNil))) aNil)))
    (sIf (tOrM (tNotM (tTru (eCall m__law_names_right (aCons (eVar 2) aNil)))) (tNotM (tTru (eCall m__law_integers_right (aCons (eVar 2) aNil))))) (sRet (eC (.bl false))) sNext))
theorem turn {i j : Nat} {g : MH} {ns : List Int} {a c : Option W} (el : lstAt g i = some (ns.map W.int)) (hj : j < 100) : ∃ σ' h', lBody [some (.ref i), some (.int j), c] g = .nx σ' h' ∧ (∃ a c, σ' = [some (.ref i), a, c]) ∧ lstAt h' i = some (ns.map W.int) := by
  obtain ⟨c, ec⟩ := cell el (k := j) (by omega) (by omega)
  have eg := lst_lt el
  obtain ⟨h1, e1, g1, B1⟩ := box c g
  obtain ⟨h2, e2, F2, B2⟩ := names_right B1 (Nat.zero_le _)
  obtain ⟨h3, e3, F3, B3⟩ := ints_right B2 (by decide)
  refine ⟨[some (.ref i), some (.int j), some (.ref g.length)], h3, ?_, ⟨_, _, rfl⟩, (F2.trans F3).lst (Nat.ne_of_lt eg) (by obtain ⟨x, rfl⟩ := g1; rw [lst_app eg]; exact el)⟩
  simp [lBody, ec, e1, e2, e3]
theorem turns (k : Nat) : ∃ n : Nat, (if (if (k : Int) < 8 then (k : Int) else 8) > 2 then (if (k : Int) < 8 then (k : Int) else 8) else 2) = n ∧ n < 100 := by
  by_cases h1 : (k : Int) < 8
  · rw [if_pos h1]
    by_cases h2 : (k : Int) > 2
    · exact ⟨k, if_pos h2, by omega⟩
    · exact ⟨2, if_neg h2, by decide⟩
  · rw [if_neg h1]
    exact ⟨8, if_pos (by decide), by decide⟩
theorem law_for {i n : Nat} {h : MH} {ns : List Int} (n9 : n < 100) (e : lstAt h i = some (ns.map W.int)) : ∃ a c g, forGo (itR 0 n) (gN 1) lBody n 0 [some (.ref i), none, none] h = .nx [some (.ref i), a, c] g := by
  obtain ⟨σ, g, e1, ⟨a, c, rfl⟩, hl⟩ := for_inv (mi := itR 0 n) (g := gN 1) (body := lBody)
    (fun _ σ g => (∃ a c, σ = [some (.ref i), a, c]) ∧ lstAt g i = some (ns.map W.int)) n
    (fun σ g _ => by rw [nx_rng]; simp) (fun j σ g hj ⟨⟨a, c, e⟩, el⟩ => by
      subst e
      obtain ⟨σ', h', e1, e2⟩ := turn (a := a) (c := c) el (j := j) (by omega)
      exact ⟨.int j, _, by rw [nx_rng]; simp [hj], rfl, σ', h', e1, e2⟩) n 0 [some (.ref i), none, none] h (by omega) ⟨⟨_, _, rfl⟩, e⟩
  exact ⟨a, c, g, e1⟩
theorem rgn {n : Nat} (h : n < 100) (g : MH) : rng1 [.int n] g = .ok (itR 0 n) g := by
  have q := rng1_i (j := (n : Int)) (h := g) (by omega) (by omega)
  rw [q, Int.toNat_natCast]
theorem law_ok {i : Nat} {h : MH} {ns : List Int} (e : lstAt h i = some (ns.map W.int)) (hn : ns.length ≤ 63) : ∃ g, m_law [.ref i] h = .ok (.bl true) g := by
  obtain ⟨n, en, n9⟩ := turns ns.length
  obtain ⟨a, c, g, e1⟩ := law_for n9 e
  refine ⟨g, ?_⟩
  unfold lBody at e1
  have ln : bLen [.ref i] h = .ok (.int ns.length) h := by rw [len_l e, List.length_map]
  have hd : (iRange rng1 (aCons (eCall bMax2 (aCons (eC (.int 2)) (aCons (eCall bMin2 (aCons (eC (.int 8)) (aCons (eCall bLen (aCons (eVar 0) aNil)) aNil))) aNil))) aNil)) [some (.ref i), none, none] h = .ok (itR 0 n) h := by
    simp only [ev_rng, ev_cons, ev_call, ev_c, ev_var, ev_nil, R.bind]
    simp only [List.getElem?_cons_zero, R.bind, ln, min2_ii, max2_ii, en, rgn n9]
  simp only [m_law, mkF, ev_seq, ev_for]
  simp only [List.length_cons, List.length_nil, List.replicate, List.map_cons, List.map_nil, List.cons_append, List.nil_append, hd, R.st_ok, fuel_rng, e1, RS.seq_nx, ev_ret, ev_c]
  exact if_pos True.intro
theorem holds (ns : List Int) (hn : ns.length ≤ 63) (hb : ∀ z ∈ ns, Builtin.Int.intBits z ≤ 1048576) : ∃ g, m_law [.ref 0] (script0 ns) = .ok (.bl true) g := law_ok rfl hn
end K02
set_option maxHeartbeats 0
namespace K02
open PySem PySem.Spec L2 PM
open PyProof.Rows hiding St
def D__law_box : He.DefD := ⟨("_law_box", none), "_law_box", "_law_box", defArgs s__law_box, defBody s__law_box, defScope s__law_box, [], []⟩
def D__law_cell : He.DefD := ⟨("_law_cell", none), "_law_cell", "_law_cell", defArgs s__law_cell, defBody s__law_cell, defScope s__law_cell, [], []⟩
def D__law_take : He.DefD := ⟨("_law_take", none), "_law_take", "_law_take", defArgs s__law_take, defBody s__law_take, defScope s__law_take, [], []⟩
def D_is_integer : He.DefD := ⟨("is_integer", none), "is_integer", "is_integer", defArgs s_is_integer, defBody s_is_integer, defScope s_is_integer, [], []⟩
def D__law_integers_right : He.DefD := ⟨("_law_integers_right", none), "_law_integers_right", "_law_integers_right", defArgs s__law_integers_right, defBody s__law_integers_right, defScope s__law_integers_right, [], []⟩
def D__law_is_name : He.DefD := ⟨("_law_is_name", none), "_law_is_name", "_law_is_name", defArgs s__law_is_name, defBody s__law_is_name, defScope s__law_is_name, [], []⟩
def D__law_text : He.DefD := ⟨("_law_text", none), "_law_text", "_law_text", defArgs s__law_text, defBody s__law_text, defScope s__law_text, [], []⟩
def D_is_name : He.DefD := ⟨("is_name", none), "is_name", "is_name", defArgs s_is_name, defBody s_is_name, defScope s_is_name, [], []⟩
def D__law_names_right : He.DefD := ⟨("_law_names_right", none), "_law_names_right", "_law_names_right", defArgs s__law_names_right, defBody s__law_names_right, defScope s__law_names_right, [], []⟩
def D_law : He.DefD := ⟨("law", none), "law", "law", defArgs s_law, defBody s_law, defScope s_law, [], []⟩
def fn : List He.DefD := [D__law_box, D__law_cell, D__law_take, D_is_integer, D__law_integers_right, D__law_is_name, D__law_text, D_is_name, D__law_names_right, D_law]
def fa : List He.Fa := [.free "all", .free "bool", .free "int", .free "isinstance", .free "len", .free "max", .free "min", .free "range", .free "repr", .free "str", .str "LETTERS" "abcdefghijklmnopqrstuvwxyz", .int "LONGEST_NAME" 8, .glo "_law_box", .glo "_law_cell", .glo "_law_take", .glo "is_integer", .glo "_law_integers_right", .glo "_law_is_name", .glo "_law_text", .glo "is_name", .glo "_law_names_right", .glo "law"]
abbrev R : PySem.W.OpenRow := PySem.W.OpenLaw.row PySem.Challenge.rw_pagemesh_k02_names_and_integers
abbrev hk : PySem.W.Hook := He.hookD 4 fa fn
def ob (s : PySem.W.SharedT) : He.AlD := He.obsDG 4 fa fn (HandSHeadRun.getT s)
theorem ob_eq (s : PySem.W.SharedT) : ob s = hk.obs s.abs := He.obsDG_eq (HandSHeadRun.getT_eq s)
def loose0 : List PySem.Str := ["LETTERS", "LONGEST_NAME", "is_name", "is_integer", "_law_cell", "_law_box", "_law_take", "_law_text", "_law_is_name", "_law_names_right", "_law_integers_right"]
def loose : List PySem.Str := loose0
theorem run (w : World) : HandSHeadRun.RunEq R (PySem.W.view R.prog [13]) hk ob 4000 loose w := by
  intro os
  kernel_rfl
theorem facts {K : PySem.W.Frag} {h : Heap} {mg : Str → Option Value} (X : K.In h) (G : h.Ns mainGlobals mg) (c : He.SaysD fa fn K) : Fx K mg where
  n_all := He.free_ok X G (c.fact 0 (f := .free "all") rfl)
  n_bool := He.free_ok X G (c.fact 1 (f := .free "bool") rfl)
  n_int := He.free_ok X G (c.fact 2 (f := .free "int") rfl)
  n_isinstance := He.free_ok X G (c.fact 3 (f := .free "isinstance") rfl)
  n_len := He.free_ok X G (c.fact 4 (f := .free "len") rfl)
  n_max := He.free_ok X G (c.fact 5 (f := .free "max") rfl)
  n_min := He.free_ok X G (c.fact 6 (f := .free "min") rfl)
  n_range := He.free_ok X G (c.fact 7 (f := .free "range") rfl)
  n_repr := He.free_ok X G (c.fact 8 (f := .free "repr") rfl)
  n_str := He.free_ok X G (c.fact 9 (f := .free "str") rfl)
  c_LETTERS := He.str_ok X G (c.fact 10 (f := .str "LETTERS" "abcdefghijklmnopqrstuvwxyz") rfl)
  c_LONGEST_NAME := He.int_ok X G (c.fact 11 (f := .int "LONGEST_NAME" 8) rfl)
  g__law_box := He.glo_ok X G (c.fact 12 (f := .glo "_law_box") rfl)
  g__law_cell := He.glo_ok X G (c.fact 13 (f := .glo "_law_cell") rfl)
  g__law_take := He.glo_ok X G (c.fact 14 (f := .glo "_law_take") rfl)
  g_is_integer := He.glo_ok X G (c.fact 15 (f := .glo "is_integer") rfl)
  g__law_integers_right := He.glo_ok X G (c.fact 16 (f := .glo "_law_integers_right") rfl)
  g__law_is_name := He.glo_ok X G (c.fact 17 (f := .glo "_law_is_name") rfl)
  g__law_text := He.glo_ok X G (c.fact 18 (f := .glo "_law_text") rfl)
  g_is_name := He.glo_ok X G (c.fact 19 (f := .glo "is_name") rfl)
  g__law_names_right := He.glo_ok X G (c.fact 20 (f := .glo "_law_names_right") rfl)
  g_law := He.glo_ok X G (c.fact 21 (f := .glo "law") rfl)
  f__law_box := c.def_ 0 (d := D__law_box) rfl
  f__law_cell := c.def_ 1 (d := D__law_cell) rfl
  f__law_take := c.def_ 2 (d := D__law_take) rfl
  f_is_integer := c.def_ 3 (d := D_is_integer) rfl
  f__law_integers_right := c.def_ 4 (d := D__law_integers_right) rfl
  f__law_is_name := c.def_ 5 (d := D__law_is_name) rfl
  f__law_text := c.def_ 6 (d := D__law_text) rfl
  f_is_name := c.def_ 7 (d := D_is_name) rfl
  f__law_names_right := c.def_ 8 (d := D__law_names_right) rfl
  f_law := c.def_ 9 (d := D_law) rfl
end K02
open PySem PySem.W PySem.Calls PyProof.Rows in
set_option maxRecDepth 100000 in
set_option maxHeartbeats 0 in
theorem PySem.Challenge.cw_pagemesh_k02_names_and_integers_holds : PySem.Challenge.rw_pagemesh_k02_names_and_integers.Holds := by
  w_on; o_law
  refine HandSHeadRun.head_any (r := K02.R) (q := view K02.R.prog [13]) (H := K02.hk) (ob := K02.ob) (M := 4000) (loose := K02.loose) (d := HandSHeadRun.topDef K02.R.prog 13) (kwd := []) K02.ob_eq
    (by kernel_rfl) (fun s => by kernel_rfl) K02.run (by kernel_rfl) (by kernel_rfl) (by kernel_rfl) (by rfl) (by first | assumption | decide +kernel) (by decide +kernel) ⟨rfl, rfl, rfl, rfl, rfl, by decide +kernel⟩ ?hw ?hc
  case hw => w_witness2
  case hc =>
    refine PM.walk_mirror (l := PySem.Challenge.rw_pagemesh_k02_names_and_integers) (n := 63) (k := 4) (x := "_law_script") rfl (by decide) (by kernel_rfl) ⟨rfl, by decide, by decide⟩ ?F
    intro w mg fa h Y G hmg0
    obtain ⟨K, KX, c⟩ := Y
    have hmg : mg ("law" : PySem.Str) = some (.ref fa) := by
      have e : (HandSHeadRun.topDef K02.R.prog 13).name = ("law" : PySem.Str) := by kernel_rfl
      rw [← e]
      exact hmg0
    have T := K02.facts KX G c
    cases hmg.symm.trans T.g_law
    obtain ⟨fd, F⟩ := T.f_law
    refine ⟨K, fd, K02.m_law, KX, fun s u => L2.FunD.bindsA (ps := ["_law_script"]) F (fun _ _ _ _ _ _ us hl => match us, hl with | [_], _ => rfl) s [u] rfl, K02.holds, fun base _ _ => ?_⟩
    obtain ⟨fd2, H, F2⟩ := K02.ok_law (P := (PySem.Challenge.rw_pagemesh_k02_names_and_integers).prog) (w := w) (base := base) T
    cases PM.FunD.same F F2
    exact H
