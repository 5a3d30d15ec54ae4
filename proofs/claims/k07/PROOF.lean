import PyProof.Rows.All
import Wide.All
import OpenK.AllK
import Wide.FinOn
import HandS.ForMost
import HandS.HeadHook4
import HandS.Flow
import HandS.Exc
import HandS.Defaults
import HandS.Ends
import HandS.HeadEnd
import HandS.EndBits
import HandS.IsInst
import HandS.Style
import HandS.Wide
import HandS.RaiseMore
import PyProof.ReprRoads
import HandS.WordsExc
import HandS.Iter
import HandS.Property
import HandS.MakeKw
import OpenK.KMeth
import OpenK.KOps
import PyProof.InstEq
import HandS.Finally
import PyProof.DictUpdate
import HandS.SortInts
import HandS.Conv
import HandS.More
import KE.KEqDict
import HandS.DictComp
import HandS.MakeKwOnly
import HandS.HeadHook2
import PySem.Challenge.RW_pagemesh_k07_patterns_changed
import KE.KStateDown
import HandS.Head0
import HandS.Head1
import HandS.Head2
import HandS.HeadHook1
set_option Elab.async false
set_option linter.all false
set_option maxRecDepth 100000
/-! Sm0: the mirror's values, heap, results; what ties them to the layer's. -/
namespace PM
open PySem PySem.Spec L2
open PyProof.Rows hiding St

/-- a mirror's value: tuples by value, other objects by number -/
inductive W where
  | non | bl (b : Bool) | int (i : Int) | str (x : Str) | ty (n : String) | ref (i : Nat) | glo (x : Str) | tup (xs : List W)
deriving Inhabited

/-- a mirror's object: ro: a list that is only read -/
inductive Ob where
  | lst (xs : List W) | dct (kvs : List (Key × W)) | ins (C : Str) (fs : List (Str × W)) | ro (xs : List W) | rod (kvs : List (Key × W)) | lck (kvs : List (Key × W))
deriving Inhabited
abbrev MH := List Ob
abbrev MS := List (Option W)
/-- an exception: its class by name (own: of the text), the number of its own dict's object -/
inductive Xc where
  | own (x : Str) | ty (n : String)
structure Xn where
  c : Xc
  d : Option Nat
inductive R (α : Type) where
  | ok (a : α) (h : MH) | exc (x : Xn) (h : MH) | stuck
inductive RS where
  | nx (σ : MS) (h : MH) | rt (w : W) (h : MH) | bk (σ : MS) (h : MH) | ct (σ : MS) (h : MH) | exc (x : Xn) (σ : MS) (h : MH) | stuck
abbrev EM := MS → MH → R W
abbrev TM := MS → MH → R Bool
abbrev AM := MS → MH → R (List W)
abbrev SM := MS → MH → RS
abbrev FM := List W → MH → R W

def R.bind {α β : Type} (r : R α) (k : α → MH → R β) : R β :=
  match r with
  | .ok a h => k a h
  | .exc x h => .exc x h
  | .stuck => .stuck
@[simp] theorem R.bind_ok {α β : Type} (a : α) (h : MH) (k : α → MH → R β) : (R.ok a h).bind k = k a h := rfl
@[simp] theorem R.bind_exc {α β : Type} (x : Xn) (h : MH) (k : α → MH → R β) : (R.exc x h).bind k = .exc x h := rfl
@[simp] theorem R.bind_stuck {α β : Type} (k : α → MH → R β) : (R.stuck : R α).bind k = .stuck := rfl
/-- a value's result within a statement -/
def R.st {α : Type} (r : R α) (σ : MS) (k : α → MH → RS) : RS :=
  match r with
  | .ok a h => k a h
  | .exc x h => .exc x σ h
  | .stuck => .stuck
@[simp] theorem R.st_ok {α : Type} (a : α) (h : MH) (σ : MS) (k : α → MH → RS) : (R.ok a h).st σ k = k a h := rfl
@[simp] theorem R.st_exc {α : Type} (x : Xn) (h : MH) (σ : MS) (k : α → MH → RS) : (R.exc x h : R α).st σ k = .exc x σ h := rfl
@[simp] theorem R.st_stuck {α : Type} (σ : MS) (k : α → MH → RS) : (R.stuck : R α).st σ k = .stuck := rfl
def RS.seq (r : RS) (k : MS → MH → RS) : RS :=
  match r with
  | .nx σ h => k σ h
  | r => r
@[simp] theorem RS.seq_nx (σ : MS) (h : MH) (k : MS → MH → RS) : (RS.nx σ h).seq k = k σ h := rfl
@[simp] theorem RS.seq_rt (w : W) (h : MH) (k : MS → MH → RS) : (RS.rt w h).seq k = .rt w h := rfl
@[simp] theorem RS.seq_bk (σ : MS) (h : MH) (k : MS → MH → RS) : (RS.bk σ h).seq k = .bk σ h := rfl
@[simp] theorem RS.seq_ct (σ : MS) (h : MH) (k : MS → MH → RS) : (RS.ct σ h).seq k = .ct σ h := rfl
@[simp] theorem RS.seq_exc (x : Xn) (σ : MS) (h : MH) (k : MS → MH → RS) : (RS.exc x σ h).seq k = .exc x σ h := rfl
@[simp] theorem RS.seq_stuck (k : MS → MH → RS) : RS.stuck.seq k = .stuck := rfl

/-- where the mirror's objects lie -/
structure Bs where
  at_ : Nat → Addr
  n : Nat
  H : Hp

mutual
inductive Rl (K : PySem.W.Frag) (b : Bs) : W → V → Prop
  | non : Rl K b .non .non
  | bl (k : Bool) : Rl K b (.bl k) (.bl k)
  | int (i : Int) : Rl K b (.int i) (.int i)
  | str (x : Str) : Rl K b (.str x) (.str x)
  | ty (n : String) : Rl K b (.ty n) (.ty n)
  | ref (i : Nat) : i < b.n → Rl K b (.ref i) (.ref (b.at_ i))
  | glo (x : Str) : Rl K b (.glo x) (.ref (He.ga K x))
  | tup (a : Addr) (ws : List W) (vs : List V) : SqT K b.H a vs → Rls K b ws vs → Rl K b (.tup ws) (.ref a)
inductive Rls (K : PySem.W.Frag) (b : Bs) : List W → List V → Prop
  | nil : Rls K b [] []
  | cons {w : W} {v : V} {ws : List W} {vs : List V} : Rl K b w v → Rls K b ws vs → Rls K b (w :: ws) (v :: vs)
end
/-- more objects, the old ones at their places; tuples stay -/
structure Ext (K : PySem.W.Frag) (b c : Bs) : Prop where
  le : b.n ≤ c.n
  ix : ∀ i, i < b.n → c.at_ i = b.at_ i
  tp : ∀ a xs, SqT K b.H a xs → SqT K c.H a xs
  fz : ∀ a o u, b.H a = some (.frz o u) → c.H a = some (.frz o u)
theorem Ext.refl {K : PySem.W.Frag} {b : Bs} : Ext K b b := ⟨Nat.le_refl _, fun _ _ => rfl, fun _ _ h => h, fun _ _ _ h => h⟩
theorem Ext.trans {K : PySem.W.Frag} {a b c : Bs} (x : Ext K a b) (y : Ext K b c) : Ext K a c :=
  ⟨Nat.le_trans x.le y.le, fun i h => (y.ix i (Nat.lt_of_lt_of_le h x.le)).trans (x.ix i h), fun p xs h => y.tp p xs (x.tp p xs h), fun p o u h => y.fz p o u (x.fz p o u h)⟩
mutual
theorem Rl.ext {K : PySem.W.Frag} {b c : Bs} (x : Ext K b c) : ∀ {w : W} {v : V}, Rl K b w v → Rl K c w v
  | _, _, .non => .non
  | _, _, .bl k => .bl k
  | _, _, .int k => .int k
  | _, _, .str k => .str k
  | _, _, .ty k => .ty k
  | _, _, .ref i h => by
    rw [← x.ix i h]
    exact .ref i (Nat.lt_of_lt_of_le h x.le)
  | _, _, .glo y => .glo y
  | _, _, .tup a ws vs h r => .tup a ws vs (x.tp a vs h) (Rls.ext x r)
theorem Rls.ext {K : PySem.W.Frag} {b c : Bs} (x : Ext K b c) : ∀ {ws : List W} {vs : List V}, Rls K b ws vs → Rls K c ws vs
  | _, _, .nil => .nil
  | _, _, .cons h t => .cons (Rl.ext x h) (Rls.ext x t)
end
section
variable {K : PySem.W.Frag} {b c : Bs} {ws xs : List W} {vs ys : List V} {w : W} {v : V}
theorem Rls.length (r : Rls K b ws vs) : ws.length = vs.length := by
  induction ws generalizing vs with
  | nil => cases r; rfl
  | cons w ws ih => cases r with | cons _ t => simp [ih t]
theorem Rls.get (r : Rls K b ws vs) {i : Nat} (e : ws[i]? = some w) : ∃ v, vs[i]? = some v ∧ Rl K b w v := by
  induction ws generalizing vs i with
  | nil => simp at e
  | cons z ws ih =>
    cases r with
    | cons h t =>
      cases i with
      | zero => simp at e; subst e; exact ⟨_, rfl, h⟩
      | succ i => simpa using ih t (by simpa using e)
theorem Rls.getV (r : Rls K b ws vs) {i : Nat} (e : vs[i]? = some v) : ∃ w, ws[i]? = some w ∧ Rl K b w v := by
  induction vs generalizing ws i with
  | nil => simp at e
  | cons z vs ih =>
    cases r with
    | cons h t =>
      cases i with
      | zero => simp at e; subst e; exact ⟨_, rfl, h⟩
      | succ i => simpa using ih t (by simpa using e)
theorem Rls.append (r : Rls K b ws vs) (s : Rls K b xs ys) : Rls K b (ws ++ xs) (vs ++ ys) := by
  induction ws generalizing vs with
  | nil => cases r; exact s
  | cons w ws ih => cases r with | cons h t => exact .cons h (ih t)
theorem Rls.take (n : Nat) (r : Rls K b ws vs) : Rls K b (ws.take n) (vs.take n) := by
  induction ws generalizing vs n with
  | nil => cases r; simp; exact .nil
  | cons w ws ih => cases r with | cons h t => cases n with | zero => exact .nil | succ n => exact .cons h (ih n t)
theorem Rls.drop (n : Nat) (r : Rls K b ws vs) : Rls K b (ws.drop n) (vs.drop n) := by
  induction ws generalizing vs n with
  | nil => cases r; simp; exact .nil
  | cons w ws ih => cases r with | cons h t => cases n with | zero => exact .cons h t | succ n => exact ih n t
theorem Rls.set (i : Nat) (h : Rl K b w v) (r : Rls K b ws vs) : Rls K b (ws.set i w) (vs.set i v) := by
  induction ws generalizing vs i with
  | nil => cases r; exact .nil
  | cons z ws ih => cases r with | cons h' t => cases i with | zero => exact .cons h t | succ i => exact .cons h' (ih i t)
end

/-- pairs with the same keys and related values -/
def Rlk {κ : Type} (K : PySem.W.Frag) (b : Bs) (kvs : List (κ × W)) (ps : List (κ × V)) : Prop := ps.map (·.1) = kvs.map (·.1) ∧ Rls K b (kvs.map (·.2)) (ps.map (·.2))
/-- what stands at the number i -/
def ObR (K : PySem.W.Frag) (b : Bs) (i : Nat) : Ob → Prop
  | .lst ws => ∃ vs, b.H (b.at_ i) = some (.lst vs) ∧ Rls K b ws vs
  | .ro ws => ∃ vs, ((∃ o, b.H (b.at_ i) = some (.frz o (.lst vs))) ∨ SqL K (fun _ => none) (b.at_ i) vs) ∧ Rls K b ws vs
  | .dct kvs => ∃ ps, b.H (b.at_ i) = some (.dK ps) ∧ Rlk K b kvs ps
  | .rod _ => False
  | .lck kvs => ∃ o ps, b.H (b.at_ i) = some (.frz o (.dK ps)) ∧ Rlk K b kvs ps
  | .ins C fs => ∃ dx ps, b.H (b.at_ i) = some (.ins (He.ga K C) dx ps) ∧ Rlk K b fs ps
/-- what may be written -/
def Ob.rw : Ob → Bool
  | .ro _ => false
  | .rod _ => false
  | .lck _ => false
  | _ => true
/-- what the run has laid itself -/
def Ob.mine : Ob → Bool
  | .ro _ => false
  | .rod _ => false
  | _ => true
theorem Ob.mine_of {o : Ob} (h : o.rw = true) : o.mine = true := by
  cases o <;> first | rfl | cases h
structure Sim (K : PySem.W.Frag) (b : Bs) (h : MH) : Prop where
  len : b.n = h.length
  ob : ∀ i o, h[i]? = some o → ObR K b i o
  inj : ∀ i j o u, h[i]? = some o → h[j]? = some u → o.mine = true → u.mine = true → b.at_ i = b.at_ j → i = j

section
variable {κ : Type} {K : PySem.W.Frag} {b c : Bs} {h : MH}
theorem Rlk.ext (x : Ext K b c) {kvs : List (κ × W)} {ps : List (κ × V)} (r : Rlk K b kvs ps) : Rlk K c kvs ps := ⟨r.1, r.2.ext x⟩
theorem Rlk.cons {k : κ} {w : W} {v : V} {kvs : List (κ × W)} {ps : List (κ × V)} (r : Rl K b w v) (s : Rlk K b kvs ps) : Rlk K b ((k, w) :: kvs) ((k, v) :: ps) :=
  ⟨by simp [s.1], .cons r s.2⟩
theorem Rlk.nil : Rlk (κ := κ) K b [] [] := ⟨rfl, .nil⟩
theorem Rlk.inv {k : κ} {w : W} {kvs : List (κ × W)} {ps : List (κ × V)} (r : Rlk K b ((k, w) :: kvs) ps) : ∃ v qs, ps = (k, v) :: qs ∧ Rl K b w v ∧ Rlk K b kvs qs := by
  obtain ⟨e, r⟩ := r
  cases ps with
  | nil => cases e
  | cons p ps =>
    obtain ⟨k', v⟩ := p
    simp only [List.map_cons, List.cons.injEq] at e
    obtain ⟨rfl, e⟩ := e
    cases r with
    | cons r rr => exact ⟨v, ps, rfl, r, e, rr⟩
theorem Rlk.inv_nil {ps : List (κ × V)} (r : Rlk K b [] ps) : ps = [] := by
  obtain ⟨e, _⟩ := r
  cases ps with
  | nil => rfl
  | cons p ps => cases e

/-- the address a is not one of the objects that may be written: what is laid at the others stays -/
theorem ObR.keep {i : Nat} {o : Ob} {b' : Bs} (x : Ext K b b') (r : ObR K b i o) (hi : i < b.n) (hH : ∀ q, (o.rw = true ∨ ∃ u z, q = .frz u z) → b.H (b.at_ i) = some q → b'.H (b.at_ i) = some q) : ObR K b' i o := by
  have e := x.ix i hi
  cases o with
  | lst ws => obtain ⟨vs, h1, r⟩ := r; exact ⟨vs, by rw [e]; exact hH _ (.inl rfl) h1, r.ext x⟩
  | dct kvs => obtain ⟨ps, h1, r⟩ := r; exact ⟨ps, by rw [e]; exact hH _ (.inl rfl) h1, r.ext x⟩
  | rod kvs => exact r.elim
  | lck kvs => obtain ⟨o, ps, h1, r⟩ := r; exact ⟨o, ps, by rw [e]; exact hH _ (.inr ⟨_, _, rfl⟩) h1, r.ext x⟩
  | ins C fs => obtain ⟨dx, ps, h1, r⟩ := r; exact ⟨dx, ps, by rw [e]; exact hH _ (.inl rfl) h1, r.ext x⟩
  | ro ws =>
    obtain ⟨vs, h1, r⟩ := r
    refine ⟨vs, ?_, r.ext x⟩
    rw [e]
    rcases h1 with ⟨o, h1⟩ | h1
    · exact .inl ⟨o, hH _ (.inr ⟨_, _, rfl⟩) h1⟩
    · exact .inr h1
theorem sqT_upd {H : Hp} {a p : Addr} {xs : List V} {o : HO} (h : SqT K H a xs) (n : ∀ q, H p = some q → (∀ ys, q ≠ .tup ys) ∧ ∀ o u, q ≠ .frz o u) : SqT K (upd H p o) a xs := by
  rcases h with (h | ⟨o', h⟩) | h
  · refine .inl (.inl ?_)
    rw [upd_ne]
    · exact h
    · rintro rfl; exact (n _ h).1 _ rfl
  · refine .inl (.inr ⟨o', ?_⟩)
    rw [upd_ne]
    · exact h
    · rintro rfl; exact (n _ h).2 _ _ rfl
  · exact .inr h
/-- a new object, at p, with the next number -/
def Bs.push (b : Bs) (p : Addr) (o : HO) : Bs := ⟨fun i => if i = b.n then p else b.at_ i, b.n + 1, upd b.H p o⟩
theorem Bs.push_at (b : Bs) (p : Addr) (o : HO) : (b.push p o).at_ b.n = p := by unfold Bs.push; simp
theorem Bs.push_lt (b : Bs) (p : Addr) (o : HO) {i : Nat} (h : i < b.n) : (b.push p o).at_ i = b.at_ i := by unfold Bs.push; simp [Nat.ne_of_lt h]
theorem Ext.push {p : Addr} {o : HO} (hp : b.H p = none) : Ext K b (b.push p o) :=
  ⟨Nat.le_succ _, fun i hi => b.push_lt p o hi, fun a xs h => sqT_upd h fun q e => (by rw [hp] at e; cases e), fun a o' u h => (upd_ne (ne_of_none h hp)).trans h⟩
theorem ObR.some {i : Nat} {o : Ob} (r : ObR K b i o) (hr : o.rw = true) : ∃ q, b.H (b.at_ i) = some q ∧ (∀ ys, q ≠ .tup ys) ∧ (∀ o u, q ≠ .frz o u) ∧ (∀ a, q ≠ .own a) := by
  cases o with
  | lst ws => obtain ⟨vs, h1, r⟩ := r; exact ⟨_, h1, by simp, by simp, by simp⟩
  | dct kvs => obtain ⟨ps, h1, r⟩ := r; exact ⟨_, h1, by simp, by simp, by simp⟩
  | ins C fs => obtain ⟨dx, ps, h1, r⟩ := r; exact ⟨_, h1, by simp, by simp, by simp⟩
  | ro ws => cases hr
  | rod kvs => cases hr
  | lck kvs => cases hr
theorem ObR.haves {i : Nat} {o : Ob} (r : ObR K b i o) (hr : o.mine = true) : ∃ q, b.H (b.at_ i) = Option.some q := by
  cases o with
  | lst ws => obtain ⟨vs, h1, r⟩ := r; exact ⟨_, h1⟩
  | dct kvs => obtain ⟨ps, h1, r⟩ := r; exact ⟨_, h1⟩
  | ins C fs => obtain ⟨dx, ps, h1, r⟩ := r; exact ⟨_, h1⟩
  | lck kvs => obtain ⟨o, ps, h1, r⟩ := r; exact ⟨_, h1⟩
  | ro ws => cases hr
  | rod kvs => cases hr
theorem Sim.lt (S : Sim K b h) {i : Nat} {o : Ob} (e : h[i]? = some o) : i < b.n := by
  rw [S.len]; exact (List.getElem?_eq_some_iff.mp e).1
theorem Sim.push (S : Sim K b h) {p : Addr} {x : HO} {o : Ob} (hp : b.H p = none) (r : ObR K (b.push p x) b.n o) : Sim K (b.push p x) (h ++ [o]) := by
  have ext : Ext K b (b.push p x) := Ext.push hp
  refine ⟨by rw [List.length_append, ← S.len]; rfl, fun i u e => ?_, fun i j u u' e e' hr hr' q => ?_⟩
  · by_cases hi : i < h.length
    · rw [List.getElem?_append_left hi] at e
      refine (S.ob i u e).keep ext (S.lt e) fun q _ hq => ?_
      show upd b.H p x _ = _
      rw [upd_ne (ne_of_none hq hp)]
      exact hq
    · have : i = h.length := by
        have := (List.getElem?_eq_some_iff.mp e).1
        rw [List.length_append] at this
        simp at this; omega
      subst this
      rw [List.getElem?_append_right (Nat.le_refl _)] at e
      simp at e; subst e
      rw [← S.len]; exact r
  · have key : ∀ (k : Nat) (w : Ob), (h ++ [o])[k]? = some w → w.mine = true → (k = h.length ∧ (b.push p x).at_ k = p) ∨ (k < h.length ∧ h[k]? = some w ∧ (b.push p x).at_ k = b.at_ k ∧ b.at_ k ≠ p) := fun k w e hr => by
      by_cases hk : k < h.length
      · rw [List.getElem?_append_left hk] at e
        obtain ⟨q, hq⟩ := ObR.haves (S.ob k w e) hr
        exact .inr ⟨hk, e, b.push_lt p x (by rw [S.len]; exact hk), ne_of_none hq hp⟩
      · have : k = h.length := by
          have := (List.getElem?_eq_some_iff.mp e).1
          rw [List.length_append] at this
          simp at this; omega
        subst this
        refine .inl ⟨rfl, ?_⟩
        rw [← S.len]; exact b.push_at p x
    rcases key i u e hr with ⟨k1, k2⟩ | ⟨k1, k2, k3, k4⟩
    · rcases key j u' e' hr' with ⟨l1, l2⟩ | ⟨l1, l2, l3, l4⟩
      · rw [k1, l1]
      · rw [k2, l3] at q; exact absurd q.symm l4
    · rcases key j u' e' hr' with ⟨l1, l2⟩ | ⟨l1, l2, l3, l4⟩
      · rw [k3, l2] at q; exact absurd q k4
      · rw [k3, l3] at q; exact S.inj i j u u' k2 l2 hr hr' q
/-- the object with the number i is changed -/
def Bs.put (b : Bs) (i : Nat) (x : HO) : Bs := ⟨b.at_, b.n, upd b.H (b.at_ i) x⟩
theorem Ext.put {i : Nat} {x : HO} {o : Ob} (r : ObR K b i o) (hr : o.rw = true) : Ext K b (b.put i x) :=
  ⟨Nat.le_refl _, fun _ _ => rfl, fun a xs h => sqT_upd h fun q e => (by
    obtain ⟨q', e', n1, n2, _⟩ := r.some hr
    rw [e'] at e; cases e; exact ⟨n1, n2⟩), fun a o' u h => (upd_ne (by
    rintro rfl
    obtain ⟨q', e', n1, n2, _⟩ := r.some hr
    rw [e'] at h; cases h; exact absurd rfl (n2 _ _))).trans h⟩
theorem Sim.put (S : Sim K b h) {i : Nat} {x : HO} {o o' : Ob} (e : h[i]? = some o) (hr : o.rw = true) (hr' : o'.rw = true) (r : ObR K (b.put i x) i o') : Sim K (b.put i x) (h.set i o') := by
  have ext : Ext K b (b.put i x) := Ext.put (S.ob i o e) hr
  have hi : i < h.length := (List.getElem?_eq_some_iff.mp e).1
  refine ⟨by rw [List.length_set, ← S.len]; rfl, fun j u ej => ?_, fun j k u u' ej ek hu hu' q => ?_⟩
  · by_cases hj : i = j
    · subst hj
      rw [List.getElem?_set_self hi] at ej
      cases ej; exact r
    · rw [List.getElem?_set_ne hj] at ej
      refine (S.ob j u ej).keep ext (S.lt ej) fun q hk hq => ?_
      show upd b.H (b.at_ i) x _ = _
      rw [upd_ne]
      · exact hq
      · intro z
        obtain ⟨q', hq', n1, n2, n3⟩ := (S.ob i o e).some hr
        rcases hk with hw | ⟨o2, z2, e2⟩
        · exact hj (S.inj i j o u e ej (Ob.mine_of hr) (Ob.mine_of hw) z.symm)
        · rw [z, hq'] at hq
          cases hq
          exact n2 _ _ e2
  · have key : ∀ (k : Nat) (w : Ob), (h.set i o')[k]? = some w → w.mine = true → ∃ w' : Ob, h[k]? = some w' ∧ w'.mine = true := fun k (w : Ob) e2 hw => by
      by_cases hk : i = k
      · subst hk; exact ⟨o, e, Ob.mine_of hr⟩
      · rw [List.getElem?_set_ne hk] at e2; exact ⟨w, e2, hw⟩
    obtain ⟨u1, e1, w1⟩ := key j u ej hu
    obtain ⟨u2, e2, w2⟩ := key k u' ek hu'
    exact S.inj j k u1 u2 e1 e2 w1 w2 q
end
end PM
/-! Sm1: what it is that a mirror's part stands for a piece of the text; names, constants, tests, small statements. -/
namespace PM
open PySem PySem.Spec L2
open PyProof.Rows hiding St

def Xc.v (K : PySem.W.Frag) : Xc → Value
  | .own x => .ref (He.ga K x)
  | .ty n => .type n
/-- behind a part: its result, and what is wanted (of an exception: We) -/
def Post {α β : Type} (K : PySem.W.Frag) (rel : Bs → α → β → Prop) (We : Value → Option Addr → Hp → Prop) (b : Bs) (Q : β → Hp → Prop) : R α → Prop
  | .ok w h => ∀ c v, Ext K b c → Sim K c h → rel c w v → Q v c.H
  | .exc x h => ∀ c, Ext K b c → Sim K c h → We (x.c.v K) (x.d.map c.at_) c.H
  | .stuck => False
section
variable {α β γ δ : Type} {K : PySem.W.Frag} {rel : Bs → α → β → Prop} {rel' : Bs → γ → δ → Prop} {We : Value → Option Addr → Hp → Prop} {b c : Bs}
theorem Post.ext {Q : β → Hp → Prop} {r : R α} (h : Post K rel We b Q r) (x : Ext K b c) : Post K rel We c Q r := by
  cases r with
  | ok w g => exact fun d v y => h d v (x.trans y)
  | exc e g => exact fun d y => h d (x.trans y)
  | stuck => exact h
theorem Post.bind {Q : δ → Hp → Prop} {r : R α} {k : α → MH → R γ} (h : Post K rel' We b Q (r.bind k)) :
    Post K rel We b (fun v H1 => ∃ c w g, c.H = H1 ∧ Ext K b c ∧ Sim K c g ∧ rel c w v ∧ Post K rel' We c Q (k w g)) r := by
  cases r with
  | ok w g => exact fun c v x s r => ⟨c, w, g, rfl, x, s, r, Post.ext (r := k w g) h x⟩
  | exc e g => exact h
  | stuck => exact h
theorem Post.mono {Q Q' : β → Hp → Prop} {r : R α} (h : Post K rel We b Q r) (m : ∀ v H, Q v H → Q' v H) : Post K rel We b Q' r := by
  cases r with
  | ok w g => exact fun c v x s r => m _ _ (h c v x s r)
  | exc e g => exact h
  | stuck => exact h
end
/-- the slots -/
structure SlM (K : PySem.W.Frag) (b : Bs) (m : MS) (σ : L2.St) : Prop where
  len : m.length = σ.length
  at_ : ∀ (i : Nat) (w : W), m[i]? = some (some w) → ∃ v, σ[i]? = some (some v) ∧ Rl K b w v
theorem SlM.ext {K : PySem.W.Frag} {b c : Bs} {m : MS} {σ : L2.St} (s : SlM K b m σ) (x : Ext K b c) : SlM K c m σ := ⟨s.len, fun i w e => let ⟨v, h, r⟩ := s.at_ i w e; ⟨v, h, r.ext x⟩⟩
theorem SlM.set {K : PySem.W.Frag} {b : Bs} {m : MS} {σ : L2.St} {w : W} {v : V} (s : SlM K b m σ) (i : Nat) (r : Rl K b w v) : SlM K b (m.set i (some w)) (σ.set i (some v)) := by
  refine ⟨by simp [s.len], fun j u e => ?_⟩
  by_cases hj : i = j
  · subst hj
    by_cases hi : i < m.length
    · rw [List.getElem?_set_self hi] at e
      cases e
      exact ⟨v, by rw [List.getElem?_set_self (by rw [← s.len]; exact hi)], r⟩
    · rw [List.getElem?_eq_none (by simpa using hi)] at e; cases e
  · rw [List.getElem?_set_ne hj] at e
    obtain ⟨v', h', r'⟩ := s.at_ j u e
    exact ⟨v', by rw [List.getElem?_set_ne hj]; exact h', r'⟩
abbrev rEqB : Bs → Bool → Bool → Prop := fun _ a b => a = b

def tSim (K : PySem.W.Frag) (Wx : WX) (m : EM) : TE := fun σ H Q => ∃ (b : Bs) (h : MH) (σm : MS), b.H = H ∧ Sim K b h ∧ SlM K b σm σ ∧ Post K (Rl K) (fun c d H' => Wx c d σ H') b Q (m σm h)
def tSimT (K : PySem.W.Frag) (Wx : WX) (m : TM) : TT := fun σ H Q => ∃ (b : Bs) (h : MH) (σm : MS), b.H = H ∧ Sim K b h ∧ SlM K b σm σ ∧ Post K rEqB (fun c d H' => Wx c d σ H') b Q (m σm h)
def tSimA (K : PySem.W.Frag) (Wx : WX) (m : AM) : TA := fun σ H Q => ∃ (b : Bs) (h : MH) (σm : MS), b.H = H ∧ Sim K b h ∧ SlM K b σm σ ∧ Post K (Rls K) (fun c d H' => Wx c d σ H') b Q (m σm h)
def PostS (K : PySem.W.Frag) (Wx : WX) (b : Bs) (D : Ends) : RS → Prop
  | .nx σm h => ∀ c σ, Ext K b c → Sim K c h → SlM K c σm σ → D.nx σ c.H
  | .bk σm h => ∀ c σ, Ext K b c → Sim K c h → SlM K c σm σ → D.bk σ c.H
  | .ct σm h => ∀ c σ, Ext K b c → Sim K c h → SlM K c σm σ → D.ct σ c.H
  | .rt w h => ∀ c v, Ext K b c → Sim K c h → Rl K c w v → D.rt v c.H
  | .exc x σm h => ∀ c σ, Ext K b c → Sim K c h → SlM K c σm σ → Wx (x.c.v K) (x.d.map c.at_) σ c.H
  | .stuck => False
def tSimS (K : PySem.W.Frag) (Wx : WX) (m : SM) : TS := fun D σ H => ∃ (b : Bs) (h : MH) (σm : MS), b.H = H ∧ Sim K b h ∧ SlM K b σm σ ∧ PostS K Wx b D (m σm h)
theorem PostS.ext {K : PySem.W.Frag} {Wx : WX} {b c : Bs} {D : Ends} {r : RS} (h : PostS K Wx b D r) (x : Ext K b c) : PostS K Wx c D r := by
  cases r with
  | nx _ _ => exact fun d σ y => h d σ (x.trans y)
  | bk _ _ => exact fun d σ y => h d σ (x.trans y)
  | ct _ _ => exact fun d σ y => h d σ (x.trans y)
  | rt _ _ => exact fun d σ y => h d σ (x.trans y)
  | exc _ _ _ => exact fun d σ y => h d σ (x.trans y)
  | stuck => exact h
/-- a value's part within a statement -/
theorem PostS.st {α β : Type} {K : PySem.W.Frag} {rel : Bs → α → β → Prop} {Wx : WX} {b : Bs} {D : Ends} {σ : L2.St} {σm : MS} {r : R α} {k : α → MH → RS} (hσ : SlM K b σm σ) (h : PostS K Wx b D (r.st σm k)) :
    Post K rel (fun c d H' => Wx c d σ H') b (fun v H1 => ∃ c w g, c.H = H1 ∧ Ext K b c ∧ Sim K c g ∧ rel c w v ∧ PostS K Wx c D (k w g)) r := by
  cases r with
  | ok w g => exact fun c v x s r => ⟨c, w, g, rfl, x, s, r, PostS.ext (r := k w g) h x⟩
  | exc e g => exact fun c x s => h c σ x s (hσ.ext x)
  | stuck => exact h

/-- the mirror's part m stands for the expression e (test; arguments; statement; statements) -/
structure SE (X : Cx) (Wx : WX) (e : Expr) (m : EM) : Prop where
  pe : PE X e (tSim X.K Wx m)
structure STt (X : Cx) (Wx : WX) (e : Expr) (m : TM) : Prop where
  pt : PT X e (tSimT X.K Wx m)
structure STw (X : Cx) (Wx : WX) (e : Expr) (m : TM) : Prop where
  pw : PW X e (tSimT X.K Wx m)
structure SA (X : Cx) (Wx : WX) (es : List Expr) (m : AM) : Prop where
  pa : PA X es (tSimA X.K Wx m)
structure SS (X : Cx) (Wx : WX) (st : Stmt) (m : SM) : Prop where
  ps : PS X st (tSimS X.K Wx m)
structure SSs (X : Cx) (Wx : WX) (sts : List Stmt) (m : SM) : Prop where
  ps : PSs X sts (tSimS X.K Wx m)

theorem pe_imp {X : Cx} {e : Expr} {t u : TE} (h : PE X e t) (m : ∀ σ H Q, u σ H Q → t σ H Q) : PE X e u := ⟨fun pins s σ H Q I q => h.run pins s σ H Q I (m _ _ _ q)⟩
theorem pt_imp {X : Cx} {e : Expr} {t u : TT} (h : PT X e t) (m : ∀ σ H Q, u σ H Q → t σ H Q) : PT X e u := ⟨fun pins s σ H Q I q => h.run pins s σ H Q I (m _ _ _ q)⟩
theorem pw_imp {X : Cx} {e : Expr} {t u : TT} (h : PW X e t) (m : ∀ σ H Q, u σ H Q → t σ H Q) : PW X e u := ⟨fun wh pins s σ H Q I q => h.run wh pins s σ H Q I (m _ _ _ q)⟩
theorem pa_imp {X : Cx} {e : List Expr} {t u : TA} (h : PA X e t) (m : ∀ σ H Q, u σ H Q → t σ H Q) : PA X e u := ⟨fun pos pins s σ H Q I q => h.run pos pins s σ H Q I (m _ _ _ q)⟩
theorem ps_imp {X : Cx} {e : Stmt} {t u : TS} (h : PS X e t) (m : ∀ D σ H, u D σ H → t D σ H) : PS X e u := ⟨fun pins s σ H D I q => h.run pins s σ H D I (m _ _ _ q)⟩
theorem pss_imp {X : Cx} {e : List Stmt} {t u : TS} (h : PSs X e t) (m : ∀ D σ H, u D σ H → t D σ H) : PSs X e u := ⟨fun pins s σ H D I q => h.run pins s σ H D I (m _ _ _ q)⟩

section
variable {X : Cx} {Wx : WX} {pos : Pos}
/-! ### names and constants -/
def eVar (i : Nat) : EM := fun σ h => match σ[i]? with
  | some (some w) => .ok w h
  | _ => .stuck
def eC (w : W) : EM := fun _ h => .ok w h
theorem se_var {i : Nat} {x : Str} (hp : PE X (.Name x pos) (tVar i)) : SE X Wx (.Name x pos) (eVar i) := ⟨pe_imp hp fun σ H Q ⟨b, h, σm, e, S, s, q⟩ => by
  subst e
  unfold eVar at q
  split at q
  · rename_i w hw
    obtain ⟨v, hv, r⟩ := s.at_ _ _ hw
    exact ⟨v, hv, q b v .refl S r⟩
  · exact q.elim⟩
theorem se_c {e : Expr} {w : W} {v : V} (hr : ∀ b, Rl X.K b w v) (h : PE X e (tC v)) : SE X Wx e (eC w) := ⟨pe_imp h fun σ H Q ⟨b, h, σm, e, S, s, q⟩ => by
  subst e
  exact q b v .refl S (hr b)⟩
theorem se_int {i j} : SE X Wx (.Constant (.int i) j pos) (eC (.int i)) := se_c (fun _ => .int i) pe_int
theorem se_bl {i j} : SE X Wx (.Constant (.bool i) j pos) (eC (.bl i)) := se_c (fun _ => .bl i) pe_bl
theorem se_non {j} : SE X Wx (.Constant .none j pos) (eC .non) := se_c (fun _ => .non) pe_non
theorem se_str {x j} : SE X Wx (.Constant (.str x) j pos) (eC (.str x)) := se_c (fun _ => .str x) pe_str
/-! ### values through operations -/
/-- an operation on two values -/
structure OpS (X : Cx) (Wx : WX) (f : Value → Value → Sem Value) (m : W → W → MH → R W) : Prop where
  run : ∀ (pins : List (Addr × Obj)) (s : Shared) (σ : L2.St) (b : Bs) (h : MH) (x y : W) (x' y' : V) (v u : Value) (Q : VK), Inv X pins σ b.H s → Sim X.K b h → Rl X.K b x x' → Rl X.K b y y' → RelV x' v → RelV y' u →
    Post X.K (Rl X.K) (fun c d H' => Wx c d σ H') b Q (m x y h) → wpAny (model X.prog X.w) X.A (f v u) (EP X pins σ Q) X.xe s
def e1 (f : W → MH → R W) (a : EM) : EM := fun σ h => (a σ h).bind f
def e2 (f : W → W → MH → R W) (a c : EM) : EM := fun σ h => (a σ h).bind fun x h1 => (c σ h1).bind fun y h2 => f x y h2
variable {a c e : Expr} {ma mc me : EM}
theorem SE.run (S : SE X Wx e me) {pins : List (Addr × Obj)} {s : Shared} {σ : L2.St} {b : Bs} {h : MH} {σm : MS} {Q : VK} (I : Inv X pins σ b.H s) (M : Sim X.K b h) (l : SlM X.K b σm σ) (q : Post X.K (Rl X.K) (fun c d H' => Wx c d σ H') b Q (me σm h)) :
    wpAny (model X.prog X.w) X.A (eval e X.env) (EP X pins σ Q) X.xe s := S.pe.run pins s σ b.H Q I ⟨b, h, σm, rfl, M, l, q⟩
theorem e2_run {f : Value → Value → Sem Value} {m : W → W → MH → R W} (ho : OpS X Wx f m) (ha : SE X Wx a ma) (hc : SE X Wx c mc) {pins : List (Addr × Obj)} {s : Shared} {σ : L2.St} {H : Hp} {Q : VK} (I : Inv X pins σ H s) (q : tSim X.K Wx (e2 m ma mc) σ H Q) :
    wpAny (model X.prog X.w) X.A (eval a X.env) (fun v s₁ => wpAny (model X.prog X.w) X.A (eval c X.env) (fun u s₂ => wpAny (model X.prog X.w) X.A (f v u) (EP X pins σ Q) X.xe s₂) X.xe s₁) X.xe s := by
  obtain ⟨b, h, σm, rfl, S, l, q⟩ := q
  refine thn (ha.run I S l (Post.bind q)) fun v s1 ⟨x', H1, I1, r1, c1, x, h1, e1, E1, S1, l1, q1⟩ => ?_
  subst e1
  refine thn (hc.run I1 S1 (l.ext E1) (Post.bind q1)) fun u s2 ⟨y', H2, I2, r2, c2, y, h2, e2, E2, S2, l2, q2⟩ => ?_
  subst e2
  exact ho.run pins s2 σ c2 h2 x y x' y' v u Q I2 S2 (l1.ext E2) l2 r1 r2 q2
theorem se_op {op : Operator} {m : W → W → MH → R W} (ho : OpS X Wx (binaryOp op) m) (ha : SE X Wx a ma) (hc : SE X Wx c mc) : SE X Wx (.BinOp a op c pos) (e2 m ma mc) :=
  ⟨⟨fun pins s σ H Q I q => wpAny_BinOp (e2_run ho ha hc I q)⟩⟩
theorem se_cmp {op : CmpOp} {m : W → W → MH → R W} (ho : OpS X Wx (compareOp op) m) (ha : SE X Wx a ma) (hc : SE X Wx c mc) (hm : behindInMarks op c = false) : SE X Wx (.Compare a [op] [c] pos) (e2 m ma mc) :=
  ⟨⟨fun pins s σ H Q I q => wpAny_Compare1 (e2_run ho ha hc I q) hm⟩⟩
/-- a rule of the layer, by what its mirror gives -/
theorem OpS.of {f : Value → Value → Sem Value} {r : R2} {m : W → W → MH → R W} (ho : OpR X f r)
    (k : ∀ (σ : L2.St) (b : Bs) (h : MH) (x y : W) (x' y' : V) (Q : VK), Sim X.K b h → Rl X.K b x x' → Rl X.K b y y' → Post X.K (Rl X.K) (fun c d H' => Wx c d σ H') b Q (m x y h) → r x' y' b.H Q) : OpS X Wx f m :=
  ⟨fun pins s σ b h x y x' y' v u Q I S r1 r2 rv ru q => ho pins s σ b.H x' y' v u Q I rv ru (k σ b h x y x' y' Q S r1 r2 q)⟩
end
end PM
/-! Sm2: truth, and, or, not, chains, arguments, displays, calls of built-ins. -/
namespace PM
open PySem PySem.Spec L2
open PyProof.Rows hiding St
section
variable {K : PySem.W.Frag} {b : Bs} {h : MH}
/-- a list's items -/
def lstAt (h : MH) (i : Nat) : Option (List W) := match h[i]? with
  | some (.lst xs) => some xs
  | some (.ro xs) => some xs
  | _ => none
theorem Sim.list (S : Sim K b h) {i : Nat} {xs : List W} (e : lstAt h i = some xs) : ∃ vs, SqL K b.H (b.at_ i) vs ∧ Rls K b xs vs ∧ i < b.n := by
  unfold lstAt at e
  split at e
  · rename_i ys hi
    cases e
    obtain ⟨vs, h1, r⟩ := S.ob _ _ hi
    exact ⟨vs, .inl (.inl h1), r, S.lt hi⟩
  · rename_i ys hi
    cases e
    obtain ⟨vs, h1, r⟩ := S.ob _ _ hi
    refine ⟨vs, ?_, r, S.lt hi⟩
    rcases h1 with ⟨o, h1⟩ | h1
    · exact .inl (.inr ⟨o, h1⟩)
    · rcases h1 with (h1 | ⟨o, h1⟩) | h1
      · cases h1
      · cases h1
      · exact .inr h1
  · cases e
/-- a list that may be written -/
def mutAt (h : MH) (i : Nat) : Option (List W) := match h[i]? with
  | some (.lst xs) => some xs
  | _ => none
theorem mutAt_eq {h : MH} {i : Nat} {xs : List W} (e : mutAt h i = some xs) : h[i]? = some (.lst xs) := by
  unfold mutAt at e
  split at e
  · rename_i ys hi
    cases e; exact hi
  · cases e
theorem Sim.mut (S : Sim K b h) {i : Nat} {xs : List W} (e : mutAt h i = some xs) : ∃ vs, b.H (b.at_ i) = some (.lst vs) ∧ Rls K b xs vs ∧ i < b.n := by
  have q := mutAt_eq e
  obtain ⟨vs, h1, r⟩ := S.ob _ _ q
  exact ⟨vs, h1, r, S.lt q⟩
theorem Sim.dict (S : Sim K b h) {i : Nat} {kvs : List (Key × W)} (e : h[i]? = some (.dct kvs)) : ∃ ps, b.H (b.at_ i) = some (.dK ps) ∧ Rlk K b kvs ps ∧ i < b.n := by
  obtain ⟨vs, h1, r⟩ := S.ob _ _ e
  exact ⟨vs, h1, r, S.lt e⟩
theorem Rls.isEmpty {ws : List W} {vs : List V} (r : Rls K b ws vs) : vs.isEmpty = ws.isEmpty := by cases r <;> rfl
/-- a list is written -/
theorem Sim.putL (S : Sim K b h) {i : Nat} {xs ys : List W} {vs : List V} (e : mutAt h i = some xs) (r : Rls K b ys vs) : Ext K b (b.put i (.lst vs)) ∧ Sim K (b.put i (.lst vs)) (h.set i (.lst ys)) := by
  have q := mutAt_eq e
  have x : Ext K b (b.put i (.lst vs)) := Ext.put (S.ob _ _ q) rfl
  exact ⟨x, S.put q rfl rfl ⟨vs, upd_same, r.ext x⟩⟩
/-- a new list -/
theorem Sim.pushL (S : Sim K b h) {p : Addr} {ys : List W} {vs : List V} (hp : b.H p = none) (r : Rls K b ys vs) : Ext K b (b.push p (.lst vs)) ∧ Sim K (b.push p (.lst vs)) (h ++ [.lst ys]) ∧ Rl K (b.push p (.lst vs)) (.ref h.length) (.ref p) := by
  have x : Ext K b (b.push p (.lst vs)) := Ext.push hp
  refine ⟨x, S.push hp ⟨vs, ?_, r.ext x⟩, ?_⟩
  · rw [Bs.push_at]; exact upd_same
  · have q := Rl.ref (K := K) (b := b.push p (.lst vs)) b.n (Nat.lt_succ_self _)
    rw [Bs.push_at, S.len] at q
    exact q
end
/-- an answer where the heap stays -/
theorem Post.here {α β : Type} {K : PySem.W.Frag} {rel : Bs → α → β → Prop} {We : Value → Option Addr → Hp → Prop} {b : Bs} {Q : β → Hp → Prop} {w : α} {v : β} {h : MH} (q : Post K rel We b Q (.ok w h)) (S : Sim K b h) (r : rel b w v) : Q v b.H := q b v .refl S r

theorem bind_assoc' {α β γ : Type} (r : R α) (f : α → MH → R β) (g : β → MH → R γ) : (r.bind f).bind g = r.bind fun a h => (f a h).bind g := by cases r <;> rfl
theorem ite_bind' {α β : Type} {c : Prop} [Decidable c] (r s : R α) (g : α → MH → R β) : (if c then r else s).bind g = if c then r.bind g else s.bind g := by split <;> rfl
/-! ### truth -/
def truW (w : W) (h : MH) : R Bool := match w with
  | .non => .ok false h
  | .bl k => .ok k h
  | .int i => .ok (i != 0) h
  | .str x => if x.length ≤ sizeLine then .ok ((x.length : Int) != 0) h else .stuck
  | .tup xs => .ok (!xs.isEmpty) h
  | .ref i => match lstAt h i with
    | some xs => .ok (!xs.isEmpty) h
    | none => match h[i]? with
      | some (.dct kvs) => .ok (!kvs.isEmpty) h
      | _ => .stuck
  | _ => .stuck
theorem truV_of {K : PySem.W.Frag} {We : Value → Option Addr → Hp → Prop} {b : Bs} {h : MH} {w : W} {v : V} {Q : Bool → Hp → Prop} (S : Sim K b h) (r : Rl K b w v) (q : Post K rEqB We b Q (truW w h)) : ∃ k, TruV K v b.H k ∧ Q k b.H := by
  cases r with
  | non => exact ⟨false, rfl, q.here S rfl⟩
  | bl k => exact ⟨k, rfl, q.here S rfl⟩
  | int i => exact ⟨i != 0, rfl, q.here S rfl⟩
  | str x =>
    unfold truW at q
    dsimp only at q
    split at q
    · rename_i hx
      exact ⟨_, ⟨hx, rfl⟩, q.here S rfl⟩
    · exact q.elim
  | tup a ws vs hs r =>
    exact ⟨!ws.isEmpty, .inr (.inl ⟨vs, hs, by rw [r.isEmpty]⟩), q.here S rfl⟩
  | ref i hi =>
    unfold truW at q
    dsimp only at q
    split at q
    · rename_i xs hx
      obtain ⟨vs, h1, r, _⟩ := S.list hx
      exact ⟨!xs.isEmpty, .inl ⟨vs, h1, by rw [r.isEmpty]⟩, q.here S rfl⟩
    · split at q
      · rename_i kvs hk
        obtain ⟨ps, h1, r, _⟩ := S.dict hk
        refine ⟨!kvs.isEmpty, .inr (.inr ⟨ps, h1, ?_⟩), q.here S rfl⟩
        have := congrArg List.isEmpty r.1
        simpa using this.symm
      · exact q.elim
  | _ => exact q.elim
section
variable {X : Cx} {Wx : WX} {pos : Pos} {a c e : Expr} {ma mc me : EM} {rest : List Expr}
theorem tru_run {pins : List (Addr × Obj)} {s : Shared} {σ : L2.St} {b : Bs} {h : MH} {w : W} {v : V} {u : Value} {Q : Bool → Hp → Prop} {We : Value → Option Addr → Hp → Prop} (I : Inv X pins σ b.H s) (S : Sim X.K b h) (r : Rl X.K b w v) (rv : RelV v u) (q : Post X.K rEqB We b Q (truW w h)) :
    wpAny (model X.prog X.w) X.A (truthy u) (TP X pins σ Q) X.xe s := tru_ok pins s σ b.H v u Q I rv (truV_of S r q)
def tTru (m : EM) : TM := fun σ h => (m σ h).bind truW
/-- a test that is its value's truth -/
theorem st_tru (ha : SE X Wx a ma) (he : ∀ whole, isTrue a X.env whole = (do let v ← whole; standAt a.pos; holding [v] (truthy v)) := by intro _; rfl) : STt X Wx a (tTru ma) := by
  refine ⟨⟨fun pins s σ H Q I q => ?_⟩⟩
  obtain ⟨b, h, σm, rfl, S, l, q⟩ := q
  refine isTrue_plain (thn (ha.run I S l (Post.bind q)) fun v s1 ⟨x, H1, I1, r1, c1, w, h1, e1, E1, S1, l1, q1⟩ => ?_) (he _)
  subst e1
  exact tru_run I1 S1 l1 r1 q1
/-- a comparison as a test -/
theorem st_cmp {op : CmpOp} {m : W → W → MH → R W} (ho : OpS X Wx (compareOp op) m) (ha : SE X Wx a ma) (hc : SE X Wx c mc) (hm : behindInMarks op c = false) : STt X Wx (.Compare a [op] [c] pos) (tTru (e2 m ma mc)) := by
  refine ⟨⟨fun pins s σ H Q I q => ?_⟩⟩
  obtain ⟨b, h, σm, rfl, S, l, q⟩ := q
  refine wpAny_isTrue_Compare1 (thn (e2_run ho ha hc I ⟨b, h, σm, rfl, S, l, Post.bind (rel := Rl X.K) q⟩) fun v s1 q1 => thn q1 fun u s2 q2 => thn q2 fun z s3 ⟨x, H1, I1, r1, c1, w, h1, e1, E1, S1, l1, q1⟩ => ?_) hm
  subst e1
  exact tru_run I1 S1 l1 r1 q1
def tNotM (m : TM) : TM := fun σ h => (m σ h).bind fun k h1 => .ok (!k) h1
theorem tSimT_bind {We : WX} {m : TM} {k : Bool → MH → R Bool} {σ : L2.St} {H : Hp} {Q : Bool → Hp → Prop} (q : tSimT X.K We (fun σ h => (m σ h).bind k) σ H Q) :
    tSimT X.K We m σ H (fun v H1 => ∃ (c : Bs) (g : MH), c.H = H1 ∧ Sim X.K c g ∧ Post X.K rEqB (fun c d H' => We c d σ H') c Q (k v g)) := by
  obtain ⟨b, h, σm, e, S, l, q⟩ := q
  refine ⟨b, h, σm, e, S, l, (Post.bind q).mono fun v H1 ⟨c, w, g, e, x, s, r, p⟩ => ?_⟩
  subst r
  exact ⟨c, g, e, s, p⟩
theorem st_not {m : TM} (ha : STt X Wx a m) : STt X Wx (.UnaryOp .Not a pos) (tNotM m) := by
  refine ⟨pt_imp (pt_not ha.pt) fun σ H Q q => ?_⟩
  obtain ⟨b, h, σm, e, S, l, q⟩ := tSimT_bind q
  exact ⟨b, h, σm, e, S, l, q.mono fun v H1 ⟨c, g, e, s, p⟩ => by subst e; exact p.here s rfl⟩
def tAndM (m n : TM) : TM := fun σ h => (m σ h).bind fun k h1 => if k = true then n σ h1 else .ok false h1
def tOrM (m n : TM) : TM := fun σ h => (m σ h).bind fun k h1 => if k = true then .ok true h1 else n σ h1
variable {m n : TM}
theorem st_w (h : STw X Wx a m) : STt X Wx a m := ⟨h.pw.pt⟩
theorem sw_and1 (ha : STt X Wx a m) : STw X Wx (.BoolOp .And [a] pos) m := ⟨pw_and1 ha.pt⟩
theorem sw_or1 (ha : STt X Wx a m) : STw X Wx (.BoolOp .Or [a] pos) m := ⟨pw_or1 ha.pt⟩
theorem sw_and (ha : STt X Wx a m) (hb : STw X Wx (.BoolOp .And (c :: rest) pos) n) : STw X Wx (.BoolOp .And (a :: c :: rest) pos) (tAndM m n) := by
  refine ⟨pw_imp (pw_and ha.pt hb.pw) fun σ H Q ⟨b, h, σm, e, S, l, q⟩ => ?_⟩
  refine ⟨b, h, σm, e, S, l, (Post.bind q).mono fun v H1 ⟨c, w, g, e, x, s, r, p⟩ => ?_⟩
  subst r; subst e
  cases w with
  | true => rw [if_pos rfl] at p ⊢; exact ⟨c, g, σm, rfl, s, l.ext x, p⟩
  | false => rw [if_neg Bool.false_ne_true] at p ⊢; exact p.here s rfl
theorem sw_or (ha : STt X Wx a m) (hb : STw X Wx (.BoolOp .Or (c :: rest) pos) n) : STw X Wx (.BoolOp .Or (a :: c :: rest) pos) (tOrM m n) := by
  refine ⟨pw_imp (pw_or ha.pt hb.pw) fun σ H Q ⟨b, h, σm, e, S, l, q⟩ => ?_⟩
  refine ⟨b, h, σm, e, S, l, (Post.bind q).mono fun v H1 ⟨c, w, g, e, x, s, r, p⟩ => ?_⟩
  subst r; subst e
  cases w with
  | true => rw [if_pos rfl] at p ⊢; exact p.here s rfl
  | false => rw [if_neg Bool.false_ne_true] at p ⊢; exact ⟨c, g, σm, rfl, s, l.ext x, p⟩
/-! ### as values -/
def eAnd (m n : EM) : EM := fun σ h => (m σ h).bind fun w h1 => (truW w h1).bind fun k h2 => if k = true then n σ h2 else .ok w h2
def eOr (m n : EM) : EM := fun σ h => (m σ h).bind fun w h1 => (truW w h1).bind fun k h2 => if k = true then .ok w h2 else n σ h2
def eNot (m : EM) : EM := fun σ h => (m σ h).bind fun w h1 => (truW w h1).bind fun k h2 => .ok (.bl (!k)) h2
theorem se_one {op} (ha : SE X Wx a ma) : SE X Wx (.BoolOp op [a] pos) ma := ⟨pe_one ha.pe⟩
theorem truW_heap {w : W} {h h' : MH} {k : Bool} (e : truW w h = .ok k h') : h' = h := by
  unfold truW at e
  repeat' split at e
  all_goals first | cases e; rfl | cases e
/-- truth within a binding -/
theorem tru_bind {K : PySem.W.Frag} {We : Value → Option Addr → Hp → Prop} {α β : Type} {rel : Bs → α → β → Prop} {b : Bs} {h : MH} {w : W} {v : V} {Q : β → Hp → Prop} {k : Bool → MH → R α} (S : Sim K b h) (r : Rl K b w v) (q : Post K rel We b Q ((truW w h).bind k)) :
    ∃ t, TruV K v b.H t ∧ truW w h = .ok t h ∧ Post K rel We b Q (k t h) := by
  have p : ∃ t, TruV K v b.H t ∧ (fun t (H : Hp) => truW w h = .ok t h) t b.H := truV_of (We := We) (Q := fun t (_ : Hp) => truW w h = .ok t h) S r (by
    cases e : truW w h with
    | ok t h' =>
      have := truW_heap e
      subst this
      intro c v _ _ r
      cases r; rfl
    | exc x g =>
      exfalso
      unfold truW at e
      repeat' split at e
      all_goals cases e
    | stuck => rw [e] at q; exact q)
  obtain ⟨t, ht, e⟩ := p
  have e' : truW w h = .ok t h := e
  rw [e'] at q
  exact ⟨t, ht, e', q⟩
theorem se_and (ha : SE X Wx a ma) (hb : SE X Wx (.BoolOp .And (c :: rest) pos) mc) : SE X Wx (.BoolOp .And (a :: c :: rest) pos) (eAnd ma mc) := by
  refine ⟨pe_imp (pe_andT ha.pe hb.pe) fun σ H Q ⟨b, h, σm, e, S, l, q⟩ => ?_⟩
  refine ⟨b, h, σm, e, S, l, (Post.bind q).mono fun v H1 ⟨c, w, g, e, x, s, r, p⟩ => ?_⟩
  subst e
  obtain ⟨t, ht, _, p⟩ := tru_bind s r p
  refine ⟨t, ht, ?_⟩
  cases t with
  | true => rw [if_pos rfl] at p ⊢; exact ⟨c, g, σm, rfl, s, l.ext x, p⟩
  | false => rw [if_neg Bool.false_ne_true] at p ⊢; exact p.here s r
theorem se_or (ha : SE X Wx a ma) (hb : SE X Wx (.BoolOp .Or (c :: rest) pos) mc) : SE X Wx (.BoolOp .Or (a :: c :: rest) pos) (eOr ma mc) := by
  refine ⟨pe_imp (pe_orT ha.pe hb.pe) fun σ H Q ⟨b, h, σm, e, S, l, q⟩ => ?_⟩
  refine ⟨b, h, σm, e, S, l, (Post.bind q).mono fun v H1 ⟨c, w, g, e, x, s, r, p⟩ => ?_⟩
  subst e
  obtain ⟨t, ht, _, p⟩ := tru_bind s r p
  refine ⟨t, ht, ?_⟩
  cases t with
  | true => rw [if_pos rfl] at p ⊢; exact p.here s r
  | false => rw [if_neg Bool.false_ne_true] at p ⊢; exact ⟨c, g, σm, rfl, s, l.ext x, p⟩
theorem se_not (ha : SE X Wx a ma) : SE X Wx (.UnaryOp .Not a pos) (eNot ma) := by
  refine ⟨pe_imp (pe_notT ha.pe) fun σ H Q ⟨b, h, σm, e, S, l, q⟩ => ?_⟩
  refine ⟨b, h, σm, e, S, l, (Post.bind q).mono fun v H1 ⟨c, w, g, e, x, s, r, p⟩ => ?_⟩
  subst e
  obtain ⟨t, ht, _, p⟩ := tru_bind s r p
  exact ⟨t, ht, p.here s (.bl _)⟩
def eIf (t : TM) (m n : EM) : EM := fun σ h => (t σ h).bind fun k h1 => if k = true then m σ h1 else n σ h1
theorem se_if {t : TM} {c' : Expr} (hc : STt X Wx c' t) (ha : SE X Wx a ma) (hb : SE X Wx c mc) : SE X Wx (.IfExp c' a c pos) (eIf t ma mc) := by
  refine ⟨pe_imp (pe_ifExp hc.pt ha.pe hb.pe) fun σ H Q ⟨b, h, σm, e, S, l, q⟩ => ?_⟩
  refine ⟨b, h, σm, e, S, l, (Post.bind q).mono fun v H1 ⟨c, w, g, e, x, s, r, p⟩ => ?_⟩
  subst e; subst r
  cases w with
  | true => rw [if_pos rfl] at p ⊢; exact ⟨c, g, σm, rfl, s, l.ext x, p⟩
  | false => rw [if_neg Bool.false_ne_true] at p ⊢; exact ⟨c, g, σm, rfl, s, l.ext x, p⟩
/-! ### a op b op' c -/
def eChain (m n : W → W → MH → R W) (x y z : EM) : EM := fun σ h => (x σ h).bind fun v h1 => (y σ h1).bind fun u h2 => (m v u h2).bind fun t h3 => (truW t h3).bind fun k h4 => if k = true then (z σ h4).bind fun o h5 => n u o h5 else .ok t h4
variable {d : Expr} {md : EM} {op op' : CmpOp} {f f' : W → W → MH → R W}
theorem chain_run (ho : OpS X Wx (compareOp op) f) (ho' : OpS X Wx (compareOp op') f') (ha : SE X Wx a ma) (hc : SE X Wx c mc) (hd : SE X Wx d md) {pins : List (Addr × Obj)} {s : Shared} {σ : L2.St} {H : Hp} {Q : VK} (I : Inv X pins σ H s) (q : tSim X.K Wx (eChain f f' ma mc md) σ H Q) :
    wpAny (model X.prog X.w) X.A (eval a X.env) (fun v s₁ => wpAny (model X.prog X.w) X.A (eval c X.env) (fun u s₂ => wpAny (model X.prog X.w) X.A (compareOp op v u) (fun t s₃ => wpAny (model X.prog X.w) X.A (truthy t) (fun k s₄ =>
      if k = true then wpAny (model X.prog X.w) X.A (eval d X.env) (fun o s₅ => wpAny (model X.prog X.w) X.A (compareOp op' u o) (EP X pins σ Q) X.xe s₅) X.xe s₄ else EP X pins σ Q t s₄) X.xe s₃) X.xe s₂) X.xe s₁) X.xe s := by
  obtain ⟨b, h, σm, rfl, S, l, q⟩ := q
  refine thn (ha.run I S l (Post.bind q)) fun v s1 ⟨x', H1, I1, r1, c1, x, h1, e1, E1, S1, l1, q1⟩ => ?_
  subst e1
  refine thn (hc.run I1 S1 (l.ext E1) (Post.bind q1)) fun u s2 ⟨y', H2, I2, r2, c2, y, h2, e2, E2, S2, l2, q2⟩ => ?_
  subst e2
  refine thn (ho.run pins s2 σ c2 h2 x y x' y' v u _ I2 S2 (l1.ext E2) l2 r1 r2 (Post.bind q2)) fun t s3 ⟨t', H3, I3, r3, c3, w, h3, e3, E3, S3, l3, q3⟩ => ?_
  subst e3
  obtain ⟨k, hk, _, q3⟩ := tru_bind S3 l3 q3
  refine thn (tru_ok pins s3 σ c3.H t' t (fun k' H' => k' = k ∧ H' = c3.H) I3 r3 ⟨k, hk, rfl, rfl⟩) fun k' s4 ⟨H4, I4, e4, e5⟩ => ?_
  subst e4; subst e5
  cases k' with
  | false =>
    rw [if_neg Bool.false_ne_true] at q3 ⊢
    exact ⟨t', c3.H, I4, r3, q3.here S3 l3⟩
  | true =>
    rw [if_pos rfl] at q3 ⊢
    refine thn (hd.run I4 S3 (((l.ext E1).ext E2).ext E3) (Post.bind q3)) fun o s5 ⟨z', H5, I5, r5, c5, z, h5, e5, E5, S5, l5, q5⟩ => ?_
    subst e5
    exact ho'.run pins s5 σ c5 h5 y z y' z' u o Q I5 S5 ((l2.ext E3).ext E5) l5 r2 r5 q5
theorem se_chain (ho : OpS X Wx (compareOp op) f) (ho' : OpS X Wx (compareOp op') f') (ha : SE X Wx a ma) (hc : SE X Wx c mc) (hd : SE X Wx d md) (hm : lastMarks [op, op'] [c, d] = false := by with_unfolding_all rfl) :
    SE X Wx (.Compare a [op, op'] [c, d] pos) (eChain f f' ma mc md) := by
  refine ⟨⟨fun pins s σ H Q I q => ?_⟩⟩
  refine Compare_chain (thn (chain_run ho ho' ha hc hd I q) fun v s1 h1 => chain_link (thn h1 fun u s2 h2 => thn h2 fun t s3 h3 => thn h3 fun k s4 h4 => ?_)) hm
  cases k with
  | false => exact ite_ff h4
  | true => exact ite_tt (chain_last h4)
theorem st_chain (ho : OpS X Wx (compareOp op) f) (ho' : OpS X Wx (compareOp op') f') (ha : SE X Wx a ma) (hc : SE X Wx c mc) (hd : SE X Wx d md) (hm : lastMarks [op, op'] [c, d] = false := by with_unfolding_all rfl) :
    STt X Wx (.Compare a [op, op'] [c, d] pos) (tTru (eChain f f' ma mc md)) := by
  refine ⟨⟨fun pins s σ H Q I q => ?_⟩⟩
  obtain ⟨b, h, σm, rfl, S, l, q⟩ := q
  have q : Post X.K rEqB (fun c d H' => Wx c d σ H') b Q ((ma σm h).bind fun v h1 => (mc σm h1).bind fun u h2 => (f v u h2).bind fun t h3 => (truW t h3).bind fun k h4 => if k = true then (md σm h4).bind fun o h5 => (f' u o h5).bind truW else truW t h4) := by
    unfold tTru eChain at q
    simpa only [bind_assoc', ite_bind', R.bind_ok] using q
  refine isTrue_chain (thn (ha.run I S l (Post.bind q)) fun v s1 ⟨x', H1, I1, r1, c1, x, h1, e1, E1, S1, l1, q1⟩ => ?_) hm
  subst e1
  refine test_link (thn (hc.run I1 S1 (l.ext E1) (Post.bind q1)) fun u s2 ⟨y', H2, I2, r2, c2, y, h2, e2, E2, S2, l2, q2⟩ => ?_)
  subst e2
  refine thn (ho.run pins s2 σ c2 h2 x y x' y' v u _ I2 S2 (l1.ext E2) l2 r1 r2 (Post.bind q2)) fun t s3 ⟨t', H3, I3, r3, c3, w, h3, e3, E3, S3, l3, q3⟩ => ?_
  subst e3
  obtain ⟨k, hk, ek, q3⟩ := tru_bind S3 l3 q3
  refine thn (tru_ok pins s3 σ c3.H t' t (fun k' H' => k' = k ∧ H' = c3.H) I3 r3 ⟨k, hk, rfl, rfl⟩) fun k' s4 ⟨H4, I4, e4, e5⟩ => ?_
  subst e4; subst e5
  cases k' with
  | false =>
    rw [if_neg Bool.false_ne_true, ek] at q3
    exact ite_ff ⟨c3.H, I4, q3.here S3 rfl⟩
  | true =>
    rw [if_pos rfl] at q3
    refine ite_tt (test_last (thn (hd.run I4 S3 (((l.ext E1).ext E2).ext E3) (Post.bind q3)) fun o s5 ⟨z', H5, I5, r5, c5, z, h5, e5, E5, S5, l5, q5⟩ => ?_))
    subst e5
    refine thn (ho'.run pins s5 σ c5 h5 y z y' z' u o _ I5 S5 ((l2.ext E3).ext E5) l5 r2 r5 (Post.bind q5)) fun p s6 ⟨p', H6, I6, r6, c6, w6, h6, e6, E6, S6, l6, q6⟩ => ?_
    subst e6
    exact tru_run I6 S6 l6 r6 q6
end
end PM
/-! Sm3: arguments, displays, calls of built-ins; statements; targets, loops, comprehensions. -/
namespace PM
open PySem PySem.Spec L2
open PyProof.Rows hiding St
section
variable {K : PySem.W.Frag} {b : Bs} {h : MH}
/-- something that the mirror has no number for is laid at p -/
def Bs.also (b : Bs) (p : Addr) (o : HO) : Bs := ⟨b.at_, b.n, upd b.H p o⟩
theorem Ext.also {p : Addr} {o : HO} (hp : b.H p = none) : Ext K b (b.also p o) :=
  ⟨Nat.le_refl _, fun _ _ => rfl, fun a xs h => sqT_upd h fun q e => (by rw [hp] at e; cases e), fun a o' u h => (upd_ne (ne_of_none h hp)).trans h⟩
theorem Sim.also (S : Sim K b h) {p : Addr} {o : HO} (hp : b.H p = none) : Sim K (b.also p o) h := by
  refine ⟨S.len, fun i u e => (S.ob i u e).keep (Ext.also hp) (S.lt e) fun q _ hq => ?_, S.inj⟩
  show upd b.H p o _ = _
  rw [upd_ne (ne_of_none hq hp)]
  exact hq
/-- a tuple is made -/
theorem Post.tup {We : Value → Option Addr → Hp → Prop} {Q : VK} {ws : List W} {vs : List V} (S : Sim K b h) (r : Rls K b ws vs) (q : Post K (Rl K) We b Q (.ok (.tup ws) h)) {p : Addr} (hp : b.H p = none) : Q (.ref p) (upd b.H p (.tup vs)) :=
  q (b.also p (.tup vs)) (.ref p) (Ext.also hp) (S.also hp) (.tup p ws vs (.inl (.inl upd_same)) (r.ext (Ext.also hp)))
theorem Post.lst {We : Value → Option Addr → Hp → Prop} {Q : VK} {ws : List W} {vs : List V} (S : Sim K b h) (r : Rls K b ws vs) (q : Post K (Rl K) We b Q (.ok (.ref h.length) (h ++ [.lst ws]))) {p : Addr} (hp : b.H p = none) : Q (.ref p) (upd b.H p (.lst vs)) := by
  obtain ⟨x, S', r'⟩ := S.pushL hp r
  exact q (b.push p (.lst vs)) (.ref p) x S' r'
end

section
variable {X : Cx} {Wx : WX} {pos : Pos} {a c e : Expr} {ma mc me : EM} {es : List Expr} {n : AM}
/-! ### arguments, displays -/
def aNil : AM := fun _ h => .ok [] h
def aCons (m : EM) (n : AM) : AM := fun σ h => (m σ h).bind fun w h1 => (n σ h1).bind fun ws h2 => .ok (w :: ws) h2
theorem sa_nil : SA X Wx [] aNil := ⟨pa_imp pa_nil fun σ H Q ⟨b, h, σm, e, S, l, q⟩ => by subst e; exact q.here S .nil⟩
theorem sa_cons (ha : SE X Wx e me) (hr : SA X Wx es n) (hs : starEach (e :: es) X.env = (false, eval e X.env) :: starEach es X.env := by rfl) : SA X Wx (e :: es) (aCons me n) := by
  refine ⟨pa_imp (pa_cons ha.pe hr.pa hs) fun σ H Q ⟨b, h, σm, e, S, l, q⟩ => ?_⟩
  refine ⟨b, h, σm, e, S, l, (Post.bind q).mono fun v H1 ⟨c, w, g, e, x, s, r, p⟩ => ?_⟩
  refine ⟨c, g, σm, e, s, l.ext x, (Post.bind p).mono fun vs H2 ⟨c2, ws, g2, e2, x2, s2, r2, p2⟩ => ?_⟩
  subst e2
  exact p2.here s2 (.cons (r.ext x2) r2)
theorem SA.run {es : List Expr} {n : AM} (S : SA X Wx es n) (ps : Pos) {pins : List (Addr × Obj)} {s : Shared} {σ : L2.St} {b : Bs} {h : MH} {σm : MS} {Q : List V → Hp → Prop} (I : Inv X pins σ b.H s) (M : Sim X.K b h) (l : SlM X.K b σm σ) (q : Post X.K (Rls X.K) (fun c d H' => Wx c d σ H') b Q (n σm h)) :
    wpAny (model X.prog X.w) X.A (spliced (backTo ps (starEach es X.env))) (AP X pins σ Q) X.xe s := S.pa.run ps pins s σ b.H Q I ⟨b, h, σm, rfl, M, l, q⟩
def eTup (n : AM) : EM := fun σ h => (n σ h).bind fun ws h1 => if ws.length ≤ sizeLine then .ok (.tup ws) h1 else .stuck
def eLst (n : AM) : EM := fun σ h => (n σ h).bind fun ws h1 => if ws.length ≤ sizeLine then .ok (.ref h1.length) (h1 ++ [.lst ws]) else .stuck
theorem se_tup {x1} (ha : SA X Wx es n) : SE X Wx (.Tuple es x1 pos) (eTup n) := by
  refine ⟨pe_imp (pe_tup ha.pa) fun σ H Q ⟨b, h, σm, e, S, l, q⟩ => ?_⟩
  refine ⟨b, h, σm, e, S, l, (Post.bind q).mono fun vs H1 ⟨c, ws, g, e, x, s, r, p⟩ => ?_⟩
  subst e
  split at p
  · rename_i hz
    exact ⟨by rw [← r.length]; exact hz, fun a ha => Post.tup s r p ha⟩
  · exact p.elim
theorem se_lst (ha : SA X Wx es n) : SE X Wx (.List es pos) (eLst n) := by
  refine ⟨pe_imp (pe_lst ha.pa) fun σ H Q ⟨b, h, σm, e, S, l, q⟩ => ?_⟩
  refine ⟨b, h, σm, e, S, l, (Post.bind q).mono fun vs H1 ⟨c, ws, g, e, x, s, r, p⟩ => ?_⟩
  subst e
  split at p
  · rename_i hz
    exact ⟨by rw [← r.length]; exact hz, fun a ha => Post.lst s r p ha⟩
  · exact p.elim
/-! ### calls of built-ins -/
structure CallS (X : Cx) (Wx : WX) (f : Value) (m : List W → MH → R W) : Prop where
  run : ∀ (pins : List (Addr × Obj)) (s : Shared) (σ : L2.St) (b : Bs) (h : MH) (ws : List W) (vs : List V) (us : List Value) (Q : VK), Inv X pins σ b.H s → Sim X.K b h → Rls X.K b ws vs → Vals vs us →
    Post X.K (Rl X.K) (fun c d H' => Wx c d σ H') b Q (m ws h) → wpAny (model X.prog X.w) X.A (call f us) (EP X pins σ Q) X.xe s
theorem CallS.of {f : Value} {r : List V → Hp → VK → Prop} {m : List W → MH → R W} (hc : CallR X f r)
    (k : ∀ (σ : L2.St) (b : Bs) (h : MH) (ws : List W) (vs : List V) (Q : VK), Sim X.K b h → Rls X.K b ws vs → Post X.K (Rl X.K) (fun c d H' => Wx c d σ H') b Q (m ws h) → r vs b.H Q) : CallS X Wx f m :=
  ⟨fun pins s σ b h ws vs us Q I S r rv q => hc pins s σ b.H vs us Q I rv (k σ b h ws vs Q S r q)⟩
def eCall (m : List W → MH → R W) (n : AM) : EM := fun σ h => (n σ h).bind m
theorem se_callB {id : String} {x : Str} {p : Pos} {m : List W → MH → R W} (hc : CallS X Wx (.builtin id) m) (hg : Gl X x) (hm : X.mg x = none) (hv : bootBuiltins x = some (.builtin id)) (ha : SA X Wx (e :: es) n) (hn : x ≠ "__name__" := by decide) (hdb : (x == ("__debug__" : Str)) = false := by decide)
    (he : starEach (e :: es) X.env = (false, eval e X.env) :: starEach es X.env := by rfl) (hpl : (backTo pos (starEach es X.env)).any (·.1) = false := by rfl) : SE X Wx (.Call (.Name x p) (e :: es) [] pos) (eCall m n) := by
  refine ⟨⟨fun pins s σ H Q I q => ?_⟩⟩
  obtain ⟨b, h, σm, rfl, S, l, q⟩ := q
  refine wpAny_Call_Name_kw (ld_blt I hg hm hv ?_ hn hdb)
  refine PyProof.Rows.callWith_builtin1 (thn (ha.run pos I S l (Post.bind q)) fun us s1 ⟨vs, H1, I1, r1, c1, ws, h1, e1, E1, S1, l1, q1⟩ => ?_) he hpl
  subst e1
  exact hc.run pins s1 σ c1 h1 ws vs us Q I1 S1 l1 r1 q1
theorem se_callT {T : String} {x : Str} {p : Pos} {m : List W → MH → R W} (hc : CallS X Wx (.type T) m) (hg : Gl X x) (hm : X.mg x = none) (hv : bootBuiltins x = some (.type T)) (ha : SA X Wx (e :: es) n) (hn : x ≠ "__name__" := by decide) (hdb : (x == ("__debug__" : Str)) = false := by decide)
    (he : starEach (e :: es) X.env = (false, eval e X.env) :: starEach es X.env := by rfl) (hpl : (backTo pos (starEach es X.env)).any (·.1) = false := by rfl) : SE X Wx (.Call (.Name x p) (e :: es) [] pos) (eCall m n) := by
  refine ⟨⟨fun pins s σ H Q I q => ?_⟩⟩
  obtain ⟨b, h, σm, rfl, S, l, q⟩ := q
  refine wpAny_Call_Name_kw (ld_blt I hg hm hv ?_ hn hdb)
  refine PyProof.Rows.callWith_type1 (thn (ha.run pos I S l (Post.bind q)) fun us s1 ⟨vs, H1, I1, r1, c1, ws, h1, e1, E1, S1, l1, q1⟩ => ?_) he hpl
  subst e1
  exact hc.run pins s1 σ c1 h1 ws vs us Q I1 S1 l1 r1 q1
end

/-! ### statements -/
section
variable {X : Cx} {Wx : WX} {pos : Pos} {a c e : Expr} {ma mc me : EM} {st : Stmt} {rest : List Stmt} {m n : SM}
def sNext : SM := fun σ h => .nx σ h
def sSeq (m n : SM) : SM := fun σ h => (m σ h).seq n
theorem PostS.seq {K : PySem.W.Frag} {b : Bs} {D : Ends} {r : RS} {k : SM} (h : PostS K Wx b D (r.seq k)) : PostS K Wx b { D with nx := fun σ H => ∃ c g σm, c.H = H ∧ Ext K b c ∧ Sim K c g ∧ SlM K c σm σ ∧ PostS K Wx c D (k σm g) } r := by
  cases r with
  | nx σm g => exact fun c σ x s l => ⟨c, g, σm, rfl, x, s, l, PostS.ext (r := k σm g) h x⟩
  | rt w g => exact h
  | bk _ _ => exact h
  | ct _ _ => exact h
  | exc _ _ _ => exact h
  | stuck => exact h
theorem PostS.mono {K : PySem.W.Frag} {b : Bs} {D D' : Ends} {r : RS} (h : PostS K Wx b D r) (h1 : ∀ σ H, D.nx σ H → D'.nx σ H) (h2 : ∀ v H, D.rt v H → D'.rt v H) (h3 : ∀ σ H, D.bk σ H → D'.bk σ H) (h4 : ∀ σ H, D.ct σ H → D'.ct σ H) : PostS K Wx b D' r := by
  cases r with
  | nx σm g => exact fun c σ x s l => h1 _ _ (h c σ x s l)
  | rt w g => exact fun c v x s l => h2 _ _ (h c v x s l)
  | bk _ _ => exact fun c σ x s l => h3 _ _ (h c σ x s l)
  | ct _ _ => exact fun c σ x s l => h4 _ _ (h c σ x s l)
  | exc _ _ _ => exact h
  | stuck => exact h
theorem ss_nil : SSs X Wx [] sNext := ⟨pss_imp pss_nil fun D σ H ⟨b, h, σm, e, S, l, q⟩ => by subst e; exact q b σ .refl S l⟩
theorem ss_cons (h1 : SS X Wx st m) (h2 : SSs X Wx rest n) : SSs X Wx (st :: rest) (sSeq m n) := by
  refine ⟨pss_imp (pss_cons h1.ps h2.ps) fun D σ H ⟨b, h, σm, e, S, l, q⟩ => ?_⟩
  refine ⟨b, h, σm, e, S, l, (PostS.seq q).mono (fun σ' H' ⟨c, g, σm', e', x, s, l', p⟩ => ⟨c, g, σm', e', s, l', p⟩) (fun _ _ z => z) (fun _ _ z => z) (fun _ _ z => z)⟩
theorem ss_one (h1 : SS X Wx st m) : SSs X Wx [st] m := ⟨pss_one h1.ps⟩
/-- a block that is never reached, or stands for nothing -/
def sStuck : SM := fun _ _ => .stuck
theorem ss_never {sts : List Stmt} : SSs X Wx sts sStuck := ⟨pss_imp pss_never fun D σ H ⟨b, h, σm, e, S, l, q⟩ => q.elim⟩
def sBreak : SM := fun σ h => .bk σ h
def sCont : SM := fun σ h => .ct σ h
theorem ss_pass : SS X Wx (.Pass pos) sNext := ⟨ps_imp ps_pass fun D σ H ⟨b, h, σm, e, S, l, q⟩ => by subst e; exact q b σ .refl S l⟩
theorem ss_break : SS X Wx (.Break pos) sBreak := ⟨ps_imp ps_break fun D σ H ⟨b, h, σm, e, S, l, q⟩ => by subst e; exact q b σ .refl S l⟩
theorem ss_continue : SS X Wx (.Continue pos) sCont := ⟨ps_imp ps_continue fun D σ H ⟨b, h, σm, e, S, l, q⟩ => by subst e; exact q b σ .refl S l⟩
theorem ss_doc {x j pos'} : SS X Wx (.Expr (.Constant (.str x) j pos) pos') sNext := ⟨ps_imp ps_doc fun D σ H ⟨b, h, σm, e, S, l, q⟩ => by subst e; exact q b σ .refl S l⟩
def sExpr (m : EM) : SM := fun σ h => (m σ h).st σ fun _ h1 => .nx σ h1
def sRet (m : EM) : SM := fun σ h => (m σ h).st σ fun w h1 => .rt w h1
def sRetN : SM := fun _ h => .rt .non h
def sSet (i : Nat) (m : EM) : SM := fun σ h => (m σ h).st σ fun w h1 => .nx (σ.set i (some w)) h1
theorem ss_expr (he : SE X Wx e me) (hs : swapsWith e none pos.line X.env = pure false := by rfl) : SS X Wx (.Expr e pos) (sExpr me) := by
  refine ⟨ps_imp (ps_expr he.pe hs) fun D σ H ⟨b, h, σm, e, S, l, q⟩ => ?_⟩
  refine ⟨b, h, σm, e, S, l, (PostS.st l q).mono fun v H1 ⟨c, w, g, e, x, s, r, p⟩ => ?_⟩
  subst e
  exact p c σ .refl s (l.ext x)
theorem ss_ret (he : SE X Wx e me) : SS X Wx (.Return (some e) pos) (sRet me) := by
  refine ⟨ps_imp (ps_ret he.pe) fun D σ H ⟨b, h, σm, e, S, l, q⟩ => ?_⟩
  refine ⟨b, h, σm, e, S, l, (PostS.st (rel := Rl X.K) l q).mono fun v H1 ⟨c, w, g, e, x, s, r, p⟩ => ?_⟩
  subst e
  exact p c v .refl s r
theorem ss_retN : SS X Wx (.Return none pos) sRetN := ⟨ps_imp ps_retN fun D σ H ⟨b, h, σm, e, S, l, q⟩ => by subst e; exact q b .non .refl S .non⟩
theorem ss_set {i : Nat} {x : Str} {pos' : Pos} (hN : X.N.Nodup) (hi : X.N[i]? = some x) (hx : Loc X.env.scope x) (he : SE X Wx e me) (hs : swapsWith e (some (.Name x pos')) pos.line X.env = pure false := by rfl) (hf : X.fn x = true ∨ X.env.scope.names.lookup x = some .local := by first | exact .inl rfl | exact .inr rfl | assumption) :
    SS X Wx (.Assign [.Name x pos'] e pos) (sSet i me) := by
  refine ⟨ps_imp (ps_set hN hi hx he.pe hs hf) fun D σ H ⟨b, h, σm, e, S, l, q⟩ => ?_⟩
  refine ⟨b, h, σm, e, S, l, (PostS.st (rel := Rl X.K) l q).mono fun v H1 ⟨c, w, g, e, x, s, r, p⟩ => ?_⟩
  subst e
  exact p c _ .refl s ((l.ext x).set i r)
def sIf (t : TM) (m n : SM) : SM := fun σ h => (t σ h).st σ fun k h1 => if k = true then m σ h1 else n σ h1
theorem ss_if {t : TM} {p q : List Stmt} (hc : STt X Wx c t) (ha : SSs X Wx p m) (hb : SSs X Wx q n) : SS X Wx (.If c p q pos) (sIf t m n) := by
  refine ⟨ps_imp (ps_if hc.pt ha.ps hb.ps) fun D σ H ⟨b, h, σm, e, S, l, q⟩ => ?_⟩
  refine ⟨b, h, σm, e, S, l, (PostS.st (rel := rEqB) l q).mono fun v H1 ⟨c, w, g, e, x, s, r, p⟩ => ?_⟩
  subst e; subst r
  cases w with
  | true => rw [if_pos rfl] at p ⊢; exact ⟨c, g, σm, rfl, s, l.ext x, p⟩
  | false => rw [if_neg Bool.false_ne_true] at p ⊢; exact ⟨c, g, σm, rfl, s, l.ext x, p⟩

/-! ### targets -/
abbrev GM := W → MS → MH → Option MS
/-- slots but those of vs are as they were -/
def Off (vs : List Nat) (σ σ' : L2.St) : Prop := σ'.length = σ.length ∧ ∀ j, j ∉ vs → σ'[j]? = σ[j]?
theorem Off.refl {vs : List Nat} {σ : L2.St} : Off vs σ σ := ⟨rfl, fun _ _ => rfl⟩
theorem Off.trans {vs : List Nat} {σ σ1 σ2 : L2.St} (a : Off vs σ σ1) (b : Off vs σ1 σ2) : Off vs σ σ2 := ⟨b.1.trans a.1, fun j h => (b.2 j h).trans (a.2 j h)⟩
theorem Off.mono {vs us : List Nat} {σ σ1 : L2.St} (a : Off vs σ σ1) (h : ∀ j ∈ vs, j ∈ us) : Off us σ σ1 := ⟨a.1, fun j k => a.2 j fun z => k (h j z)⟩
theorem wipe_get {σ : L2.St} : ∀ (vs : List Nat) (j : Nat), (wipe σ vs)[j]? = if j ∈ vs then (if j < σ.length then some none else none) else σ[j]?
  | [], j => by simp [wipe]
  | v :: vs, j => by
    unfold wipe
    have ih := wipe_get (σ := σ) vs j
    by_cases h : v = j
    · subst h
      by_cases hl : v < (wipe σ vs).length
      · rw [List.getElem?_set_self hl]
        rw [wipe_length] at hl
        simp [hl]
      · rw [List.getElem?_eq_none (by simpa using hl)]
        rw [wipe_length] at hl
        simp [hl]
    · rw [List.getElem?_set_ne h, ih]
      have : (j = v) = False := by simp; exact fun z => h z.symm
      simp [this]
theorem Off.wipe {vs : List Nat} {σ σ' : L2.St} (o : Off vs σ σ') : wipe σ' vs = wipe σ vs := by
  apply List.ext_getElem?
  intro j
  rw [wipe_get, wipe_get, o.1]
  by_cases h : j ∈ vs
  · simp [h]
  · simp [h, o.2 j h]
def gSim (K : PySem.W.Frag) (vs : List Nat) (g : GM) : TG := fun v σ H Q => ∃ (b : Bs) (h : MH) (σm : MS) (w : W), b.H = H ∧ Sim K b h ∧ SlM K b σm σ ∧ Rl K b w v ∧ match g w σm h with
  | some σm' => ∀ c σ', Ext K b c → Sim K c h → SlM K c σm' σ' → Off vs σ σ' → Q σ' c.H
  | none => False
structure SG (X : Cx) (tg : Expr) (vs : List Nat) (g : GM) : Prop where
  pg : PG X tg (gSim X.K vs g)
theorem pg_imp {tg : Expr} {t u : TG} (h : PG X tg t) (m : ∀ v σ H Q, u v σ H Q → t v σ H Q) : PG X tg u := ⟨fun pins s σ H v z Q I r q => h.run pins s σ H v z Q I r (m _ _ _ _ q)⟩
def gN (i : Nat) : GM := fun w σ _ => some (σ.set i (some w))
theorem sg_name {i : Nat} {x : Str} (hN : X.N.Nodup) (hi : X.N[i]? = some x) (hx : Loc X.env.scope x) (hf : X.fn x = true ∨ X.env.scope.names.lookup x = some .local := by first | exact .inl rfl | exact .inr rfl | assumption) : SG X (.Name x pos) [i] (gN i) := by
  refine ⟨pg_imp (pg_name hN hi hx hf) fun v σ H Q ⟨b, h, σm, w, e, S, l, r, q⟩ => ?_⟩
  subst e
  exact q b _ .refl S (l.set i r) ⟨by simp, fun j hj => List.getElem?_set_ne (by simp at hj; omega)⟩
abbrev GMs := List W → MS → MH → Option MS
def gSims (K : PySem.W.Frag) (vs : List Nat) (g : GMs) : TGs := fun us σ H Q => ∃ (b : Bs) (h : MH) (σm : MS) (ws : List W), b.H = H ∧ Sim K b h ∧ SlM K b σm σ ∧ Rls K b ws us ∧ match g ws σm h with
  | some σm' => ∀ c σ', Ext K b c → Sim K c h → SlM K c σm' σ' → Off vs σ σ' → Q σ' c.H
  | none => False
structure SGs (X : Cx) (tgs : List Expr) (vs : List Nat) (g : GMs) : Prop where
  pgs : PGs X tgs (gSims X.K vs g)
theorem pgs_imp {tg : List Expr} {t u : TGs} (h : PGs X tg t) (m : ∀ v σ H Q, u v σ H Q → t v σ H Q) : PGs X tg u := ⟨fun pins s σ H v z Q I r q => h.run pins s σ H v z Q I r (m _ _ _ _ q)⟩
def gNil : GMs := fun ws σ _ => match ws with
  | [] => some σ
  | _ => none
def gCons (g : GM) (k : GMs) : GMs := fun ws σ h => match ws with
  | w :: ws => (g w σ h).bind fun σ' => k ws σ' h
  | [] => none
theorem sg_nil : SGs X [] [] gNil := by
  refine ⟨pgs_imp pgs_nil fun us σ H Q ⟨b, h, σm, ws, e, S, l, r, q⟩ => ?_⟩
  subst e
  cases r with
  | nil => exact ⟨rfl, q b σ .refl S l .refl⟩
  | cons _ _ => exact q.elim
theorem sg_cons {es : List Expr} {vs us : List Nat} {g : GM} {k : GMs} (h1 : SG X e vs g) (h2 : SGs X es us k) (hs : (assignEach (e :: es) X.env).map (·.2) = assign e X.env :: (assignEach es X.env).map (·.2) := by rfl) : SGs X (e :: es) (vs ++ us) (gCons g k) := by
  refine ⟨pgs_imp (pgs_cons h1.pg h2.pgs hs) fun zs σ H Q ⟨b, h, σm, ws, e, S, l, r, q⟩ => ?_⟩
  subst e
  cases r with
  | nil => exact q.elim
  | @cons w v ws' vs' r rr =>
    refine ⟨v, vs', rfl, b, h, σm, w, rfl, S, l, r, ?_⟩
    have q' : match (g w σm h).bind fun σ' => k ws' σ' h with
      | some σm' => ∀ c σ', Ext X.K b c → Sim X.K c h → SlM X.K c σm' σ' → Off (vs ++ us) σ σ' → Q σ' c.H
      | none => False := q
    cases eg : g w σm h with
    | none => rw [eg] at q'; exact q'
    | some σ1 =>
      rw [eg] at q'
      refine fun c σ' x s l' o => ⟨c, h, σ1, ws', rfl, s, l', rr.ext x, ?_⟩
      simp only [Option.bind_some] at q'
      cases ek : k ws' σ1 h with
      | none => rw [ek] at q'; exact q'
      | some σ2 =>
        rw [ek] at q'
        exact fun c2 σ2' x2 s2 l2 o2 => q' c2 σ2' (x.trans x2) s2 l2 ((o.mono fun j hj => List.mem_append_left _ hj).trans (o2.mono fun j hj => List.mem_append_right _ hj))
/-- (a, b, ..) = a tuple -/
def gTp (n : Nat) (k : GMs) : GM := fun w σ h => match w with
  | .tup ws => if ws.length = n then k ws σ h else none
  | _ => none
theorem sg_tup {es : List Expr} {vs : List Nat} {k : GMs} {n k0 : Nat} (hc : X.calm = true) (hk : SGs X es vs k) (hn : (assignEach es X.env).length = n := by rfl) (hst : (assignEach es X.env).findIdx? (·.1) = none := by rfl) : SG X (.Tuple es k0 pos) vs (gTp n k) := by
  refine ⟨pg_imp (pg_tup hc hk.pgs hn hst) fun v σ H Q ⟨b, h, σm, w, e, S, l, r, q⟩ => ?_⟩
  subst e
  unfold gTp at q
  cases r with
  | tup a ws us hs rr =>
    dsimp only at q
    by_cases hz : ws.length = n
    · rw [if_pos hz] at q
      exact ⟨a, us, rfl, hs, by rw [← rr.length]; exact hz, b, h, σm, ws, rfl, S, l, rr, q⟩
    · rw [if_neg hz] at q
      exact q.elim
  | _ => exact q.elim
/-- target = value -/
def sAsg (g : GM) (m : EM) : SM := fun σ h => (m σ h).st σ fun w h1 => match g w σ h1 with
  | some σ' => .nx σ' h1
  | none => .stuck
theorem ss_asg {tg : Expr} {vs : List Nat} {g : GM} (he : SE X Wx e me) (hg : SG X tg vs g) (hs : swapsWithSole [tg] e pos.line X.env = pure false := by rfl) (hw : swappedStores [tg] e X.env = pure none := by rfl)
    (h1 : (assignEach [tg] X.env).map (·.2) = [assign tg X.env] := by rfl) : SS X Wx (.Assign [tg] e pos) (sAsg g me) := by
  refine ⟨ps_imp (ps_asg he.pe hg.pg hs hw h1) fun D σ H ⟨b, h, σm, e, S, l, q⟩ => ?_⟩
  refine ⟨b, h, σm, e, S, l, (PostS.st (rel := Rl X.K) l q).mono fun v H1 ⟨c, w, g', e, x, s, r, p⟩ => ?_⟩
  refine ⟨c, g', σm, w, e, s, l.ext x, r, ?_⟩
  cases eg : g w σm g' with
  | none => rw [eg] at p; exact p
  | some σ1 =>
    rw [eg] at p
    exact fun c2 σ2 x2 s2 l2 _ => p c2 σ2 x2 s2 l2
end
end PM
/-! Sm4: what is walked; for, while; list comprehensions. -/
namespace PM
open PySem PySem.Spec L2
open PyProof.Rows hiding St
/-- what is walked: at most so many items; at turn i: none: not to be told; some none: the end -/
structure MI where
  fuel : Nat
  nx : Nat → MH → Option (Option W)
def ItS (K : PySem.W.Frag) (b0 : Bs) (mi : MI) (J : It) : Prop := ∀ (b : Bs) (h : MH) (i : Nat), Ext K b0 b → Sim K b h → match mi.nx i h with
  | none => True
  | some none => J.stop i b.H
  | some (some w) => J.go i b.H ∧ ∀ x H', J.yld i b.H x H' → ∃ c, c.H = H' ∧ Ext K b c ∧ Sim K c h ∧ Rl K c w x
def iSim (K : PySem.W.Frag) (Wx : WX) (m : MS → MH → R MI) : TI := fun σ H Rr => ∃ (b : Bs) (h : MH) (σm : MS), b.H = H ∧ Sim K b h ∧ SlM K b σm σ ∧ Post K (ItS K) (fun c d H' => Wx c d σ H') b Rr (m σm h)
structure SI (X : Cx) (Wx : WX) (tg iter : Expr) (m : MS → MH → R MI) : Prop where
  pi : PI X tg iter (iSim X.K Wx m)
theorem pi_imp {X : Cx} {tg iter : Expr} {t u : TI} (h : PI X tg iter t) (m : ∀ σ H Q, u σ H Q → t σ H Q) : PI X tg iter u := ⟨fun pins s σ H Q I q => h.run pins s σ H Q I (m _ _ _ q)⟩
theorem pi_or {X : Cx} {tg iter : Expr} {t u : TI} (h : PI X tg iter t) (k : PI X tg iter u) : PI X tg iter (fun σ H Q => t σ H Q ∨ u σ H Q) := ⟨fun pins s σ H Q I q => by
  rcases q with q | q
  · exact h.run pins s σ H Q I q
  · exact k.run pins s σ H Q I q⟩
section
variable {X : Cx} {Wx : WX} {pos : Pos} {a c e tg iter : Expr} {ma mc me : EM} {n : AM}
/-- the items of a list (as it stands at each turn), of a tuple -/
def itL (i : Nat) (xs : List W) : MI := ⟨xs.length, fun k g => match lstAt g i with
  | some ys => some ys[k]?
  | none => none⟩
def itT (ws : List W) : MI := ⟨ws.length, fun k _ => some ws[k]?⟩
/-- a text, sign by sign -/
def itS (x : Str) : MI := ⟨x.length, fun k _ => some (x.cps.toList[k]?.map fun c => .str ⟨#[c]⟩)⟩
theorem itS_ok {K : PySem.W.Frag} {c : Bs} {x : Str} : ItS K c (itS x) (Its x) := by
  intro b h k _ s
  unfold itS
  dsimp only
  cases e : x.cps.toList[k]? with
  | none =>
    have := List.getElem?_eq_none_iff.mp e
    exact show x.cps.size ≤ k by simpa using this
  | some c =>
    have lt := (List.getElem?_eq_some_iff.mp e).1
    refine ⟨show k < x.cps.size by simpa using lt, fun z H' ⟨e3, c', hc, hz⟩ => ⟨b, e3.symm, .refl, s, ?_⟩⟩
    have : x.cps[k]? = some c := by simpa using e
    rw [this] at hc; cases hc
    rw [hz]; exact .str _
def iterW (w : W) (h : MH) : R MI := match w with
  | .str x => .ok (itS x) h
  | .ref i => match lstAt h i with
    | some xs => .ok (itL i xs) h
    | none => .stuck
  | .tup ws => .ok (itT ws) h
  | _ => .stuck
theorem itL_ok {K : PySem.W.Frag} {c : Bs} {i : Nat} {xs : List W} (hi : i < c.n) : ItS K c (itL i xs) (Itl K (c.at_ i)) := by
  intro b h k x s
  unfold itL
  dsimp only
  cases e : lstAt h i with
  | none => trivial
  | some ys =>
    dsimp only
    obtain ⟨vs, h1, r, _⟩ := s.list e
    rw [x.ix i hi] at h1
    cases e2 : ys[k]? with
    | none => exact ⟨vs, h1, by rw [← r.length]; exact List.getElem?_eq_none_iff.mp e2⟩
    | some y =>
      obtain ⟨v, hv, rv⟩ := r.get e2
      refine ⟨⟨vs, v, h1, hv⟩, fun z H' ⟨e3, hz⟩ => ⟨b, e3.symm, .refl, s, ?_⟩⟩
      have := hz vs h1
      rw [hv] at this; cases this
      exact rv
theorem itT_ok {K : PySem.W.Frag} {c : Bs} {a : Addr} {ws : List W} {vs : List V} (hs : SqT K c.H a vs) (r : Rls K c ws vs) : ItS K c (itT ws) (Itt K a) := by
  intro b h k x s
  unfold itT
  dsimp only
  have h1 := x.tp _ _ hs
  cases e2 : ws[k]? with
  | none => exact ⟨vs, h1, by rw [← r.length]; exact List.getElem?_eq_none_iff.mp e2⟩
  | some y =>
    obtain ⟨v, hv, rv⟩ := r.get e2
    refine ⟨⟨vs, v, h1, hv⟩, fun z H' ⟨e3, hz⟩ => ⟨b, e3.symm, .refl, s, ?_⟩⟩
    have := hz vs h1
    rw [hv] at this; cases this
    exact rv.ext x
def iVal (m : EM) : MS → MH → R MI := fun σ h => (m σ h).bind iterW
theorem si_val (ha : SE X Wx a ma) : SI X Wx tg a (iVal ma) := by
  refine ⟨pi_imp (pi_or (pi_list ha.pe) (pi_or (pi_tup ha.pe) (pi_str ha.pe))) fun σ H Q ⟨b, h, σm, e, S, l, q⟩ => ?_⟩
  have q : Post X.K (ItS X.K) (fun c d H' => Wx c d σ H') b Q ((ma σm h).bind iterW) := q
  cases em : ma σm h with
  | stuck => rw [em] at q; exact q.elim
  | exc x g => rw [em] at q; exact .inl ⟨b, h, σm, e, S, l, by rw [em]; exact q⟩
  | ok w g =>
    rw [em] at q
    have q : Post X.K (ItS X.K) (fun c d H' => Wx c d σ H') b Q (iterW w g) := q
    unfold iterW at q
    cases w with
    | ref i =>
      dsimp only at q
      cases el : lstAt g i with
      | none => rw [el] at q; exact q.elim
      | some xs =>
        rw [el] at q
        refine .inl ⟨b, h, σm, e, S, l, ?_⟩
        rw [em]
        intro c v x s r
        cases r with
        | ref _ hi =>
          obtain ⟨vs, h1, r, _⟩ := s.list el
          exact ⟨_, rfl, ⟨vs, h1⟩, q c _ x s (itL_ok hi)⟩
    | tup ws =>
      refine .inr (.inl ⟨b, h, σm, e, S, l, ?_⟩)
      rw [em]
      intro c v x s r
      cases r with
      | tup a _ vs hs r => exact ⟨a, rfl, ⟨vs, hs⟩, q c _ x s (itT_ok hs r)⟩
    | str z =>
      refine .inr (.inr ⟨b, h, σm, e, S, l, ?_⟩)
      rw [em]
      intro c v x s r
      cases r with
      | str _ => exact ⟨z, rfl, q c _ x s itS_ok⟩
    | _ => exact q.elim
/-- range -/
def itR (lo : Int) (n : Nat) : MI := ⟨n, fun k _ => if k < n then some (some (.int (lo + k))) else some none⟩
theorem itR_ok {K : PySem.W.Frag} {c : Bs} {lo : Int} {n : Nat} : ItS K c (itR lo n) (Itr lo n) := by
  intro b h k x s
  unfold itR
  dsimp only
  by_cases hk : k < n
  · rw [if_pos hk]
    exact ⟨hk, fun z H' ⟨e3, hz⟩ => ⟨b, e3.symm, .refl, s, by rw [hz]; exact .int _⟩⟩
  · rw [if_neg hk]
    exact Nat.le_of_not_lt hk
def rng1 (ws : List W) (h : MH) : R MI := match ws with
  | [.int j] => if -(2 ^ 62) ≤ j ∧ j < 2 ^ 62 then .ok (itR 0 j.toNat) h else .stuck
  | _ => .stuck
def rng2 (ws : List W) (h : MH) : R MI := match ws with
  | [.int i, .int j] => if -(2 ^ 62) ≤ i ∧ i < 2 ^ 62 ∧ -(2 ^ 62) ≤ j ∧ j < 2 ^ 62 then .ok (itR i (j - i).toNat) h else .stuck
  | _ => .stuck
def iRange (f : List W → MH → R MI) (n : AM) : MS → MH → R MI := fun σ h => (n σ h).bind f
theorem si_range1 {p pos : Pos} (hg : Gl X "range") (hm : X.mg "range" = none) (ha : SA X Wx [a] n) (hs : starEach [a] X.env = [(false, eval a X.env)] := by rfl) : SI X Wx tg (.Call (.Name "range" p) [a] [] pos) (iRange rng1 n) := by
  refine ⟨pi_imp (pi_range1 hg hm ha.pa hs) fun σ H Q ⟨b, h, σm, e, S, l, q⟩ => ?_⟩
  refine ⟨b, h, σm, e, S, l, (Post.bind q).mono fun vs H1 ⟨c, ws, g, e, x, s, r, p⟩ => ?_⟩
  subst e
  unfold rng1 at p
  split at p
  · rename_i j
    cases r with
    | cons r rr =>
      cases rr; cases r
      split at p
      · rename_i hj
        exact ⟨j, rfl, hj.1, hj.2, p.here s itR_ok⟩
      · exact p.elim
  · exact p.elim
theorem si_range2 {p pos : Pos} {a' : Expr} (hg : Gl X "range") (hm : X.mg "range" = none) (ha : SA X Wx [a, a'] n) (hs : starEach [a, a'] X.env = [(false, eval a X.env), (false, eval a' X.env)] := by rfl) (hs2 : starEach [a'] X.env = [(false, eval a' X.env)] := by rfl) :
    SI X Wx tg (.Call (.Name "range" p) [a, a'] [] pos) (iRange rng2 n) := by
  refine ⟨pi_imp (pi_range2 hg hm ha.pa hs hs2) fun σ H Q ⟨b, h, σm, e, S, l, q⟩ => ?_⟩
  refine ⟨b, h, σm, e, S, l, (Post.bind q).mono fun vs H1 ⟨c, ws, g, e, x, s, r, p⟩ => ?_⟩
  subst e
  unfold rng2 at p
  split at p
  · rename_i i j
    cases r with
    | cons r rr =>
      cases rr with
      | cons r' rr =>
        cases rr; cases r; cases r'
        split at p
        · rename_i hj
          exact ⟨i, j, rfl, hj, p.here s itR_ok⟩
        · exact p.elim
  · exact p.elim
/-! ### for -/
def forGo (mi : MI) (g : GM) (body : SM) : Nat → Nat → MS → MH → RS
  | 0, i, σ, h => match mi.nx i h with
    | some none => .nx σ h
    | _ => .stuck
  | f + 1, i, σ, h => match mi.nx i h with
    | some none => .nx σ h
    | none => .stuck
    | some (some w) => match g w σ h with
      | none => .stuck
      | some σ1 => match body σ1 h with
        | .nx σ2 h2 => forGo mi g body f (i + 1) σ2 h2
        | .ct σ2 h2 => forGo mi g body f (i + 1) σ2 h2
        | .bk σ2 h2 => .nx σ2 h2
        | .rt w2 h2 => .rt w2 h2
        | .exc x σ2 h2 => .exc x σ2 h2
        | .stuck => .stuck
def sFor (it : MS → MH → R MI) (g : GM) (body : SM) : SM := fun σ h => (it σ h).st σ fun mi h1 => forGo mi g body mi.fuel 0 σ h1
theorem ss_for {it : MS → MH → R MI} {vs : List Nat} {g : GM} {body : List Stmt} {mb : SM} (hp : PassesOwn (model X.prog X.w) X.A X.env X.xe) (hc : X.calm = true) (hi : SI X Wx tg iter it) (hg : SG X tg vs g) (hb : SSs X Wx body mb)
    (hs : ∀ x, foldedSetIterable iter X.env x = pure x := by intro _; rfl) : SS X Wx (.For tg iter body [] pos) (sFor it g mb) := by
  refine ⟨ps_imp (ps_for hp hc hi.pi hg.pg hb.ps hs) fun D σ H ⟨b, h, σm, e, S, l, q⟩ => ?_⟩
  refine ⟨b, h, σm, e, S, l, (PostS.st (rel := ItS X.K) l q).mono fun J H1 ⟨c, mi, g1, e, x, s, r, p⟩ => ?_⟩
  subst e
  refine ⟨fun i m σ H => ∃ (b : Bs) (h : MH) (σm : MS), b.H = H ∧ Ext X.K c b ∧ Sim X.K b h ∧ SlM X.K b σm σ ∧ PostS X.K Wx b D (forGo mi g mb m i σm h), ⟨mi.fuel, c, g1, σm, rfl, .refl, s, l.ext x, p⟩, ?_⟩
  rintro i m σ H ⟨b, h, σm, rfl, x, s, l, p⟩
  have ri := r b h i x s
  cases m with
  | zero =>
    unfold forGo at p
    cases em : mi.nx i h with
    | none => rw [em] at p; exact p.elim
    | some ow =>
      cases ow with
      | none => rw [em] at p ri; exact .inl ⟨ri, p b σ .refl s l⟩
      | some w => rw [em] at p; exact p.elim
  | succ f =>
    unfold forGo at p
    cases em : mi.nx i h with
    | none => rw [em] at p; exact p.elim
    | some ow =>
      cases ow with
      | none => rw [em] at p ri; exact .inl ⟨ri, p b σ .refl s l⟩
      | some w =>
        rw [em] at p ri
        dsimp only at p ri
        cases eg : g w σm h with
        | none => rw [eg] at p; exact p.elim
        | some σ1 =>
          rw [eg] at p
          dsimp only at p
          refine .inr ⟨ri.1, fun σ' H' => ∃ (b : Bs) (h : MH) (σm : MS), b.H = H' ∧ Ext X.K c b ∧ Sim X.K b h ∧ SlM X.K b σm σ' ∧ PostS X.K Wx b D (forGo mi g mb f (i + 1) σm h), fun σ' H' z => ⟨f, Nat.lt_succ_self _, z⟩, fun v H' y => ?_⟩
          obtain ⟨c1, e1, x1, s1, r1⟩ := ri.2 v H' y
          refine ⟨c1, h, σm, w, e1, s1, l.ext x1, r1, ?_⟩
          rw [eg]
          refine fun c2 σ2 x2 s2 l2 _ => ⟨c2, h, σ1, rfl, s2, l2, ?_⟩
          have x' : Ext X.K c c2 := x.trans (x1.trans x2)
          have p := PostS.ext p (x1.trans x2)
          cases eb : mb σ1 h with
          | nx σ3 h3 => rw [eb] at p; exact fun d σ4 y4 s4 l4 => ⟨d, h3, σ3, rfl, x'.trans y4, s4, l4, PostS.ext (r := forGo mi g mb f (i + 1) σ3 h3) p y4⟩
          | ct σ3 h3 => rw [eb] at p; exact fun d σ4 y4 s4 l4 => ⟨d, h3, σ3, rfl, x'.trans y4, s4, l4, PostS.ext (r := forGo mi g mb f (i + 1) σ3 h3) p y4⟩
          | bk σ3 h3 => rw [eb] at p; exact p
          | rt w3 h3 => rw [eb] at p; exact p
          | exc _ _ _ => rw [eb] at p; exact p
          | stuck => rw [eb] at p; exact p
/-! ### while -/
def whGo (t : TM) (body : SM) : Nat → MS → MH → RS
  | 0, _, _ => .stuck
  | f + 1, σ, h => (t σ h).st σ fun k h1 => if k = true then
      match body σ h1 with
        | .nx σ2 h2 => whGo t body f σ2 h2
        | .ct σ2 h2 => whGo t body f σ2 h2
        | .bk σ2 h2 => .nx σ2 h2
        | .rt w2 h2 => .rt w2 h2
        | .exc x σ2 h2 => .exc x σ2 h2
        | .stuck => .stuck
    else .nx σ h1
def sWhile (fuel : Nat) (t : TM) (body : SM) : SM := fun σ h => whGo t body fuel σ h
theorem ss_while {t : TM} {body : List Stmt} {mb : SM} (fuel : Nat) (hp : PassesOwn (model X.prog X.w) X.A X.env X.xe) (hc : STt X Wx c t) (hb : SSs X Wx body mb) : SS X Wx (.While c body [] pos) (sWhile fuel t mb) := by
  refine ⟨ps_imp (ps_while hp hc.pt hb.ps) fun D σ H ⟨b, h, σm, e, S, l, q⟩ => ?_⟩
  refine ⟨fun m σ H => ∃ (b : Bs) (h : MH) (σm : MS), b.H = H ∧ Sim X.K b h ∧ SlM X.K b σm σ ∧ PostS X.K Wx b D (whGo t mb m σm h), ⟨fuel, b, h, σm, e, S, l, q⟩, ?_⟩
  rintro m σ H ⟨b, h, σm, rfl, s, l, p⟩
  cases m with
  | zero => exact p.elim
  | succ f =>
    unfold whGo at p
    refine ⟨b, h, σm, rfl, s, l, (PostS.st (rel := rEqB) l p).mono fun k H1 ⟨c1, k', g, e, x, s, r, p⟩ => ?_⟩
    subst e; subst r
    cases k' with
    | false => rw [if_neg Bool.false_ne_true] at p ⊢; exact p c1 σ .refl s (l.ext x)
    | true =>
      rw [if_pos rfl] at p ⊢
      refine ⟨fun σ' H' => ∃ (b : Bs) (h : MH) (σm : MS), b.H = H' ∧ Sim X.K b h ∧ SlM X.K b σm σ' ∧ PostS X.K Wx b D (whGo t mb f σm h), fun σ' H' z => ⟨f, Nat.lt_succ_self _, z⟩, c1, g, σm, rfl, s, l.ext x, ?_⟩
      cases eb : mb σm g with
      | nx σ3 h3 => rw [eb] at p; exact fun d σ4 y4 s4 l4 => ⟨d, h3, σ3, rfl, s4, l4, PostS.ext (r := whGo t mb f σ3 h3) p y4⟩
      | ct σ3 h3 => rw [eb] at p; exact fun d σ4 y4 s4 l4 => ⟨d, h3, σ3, rfl, s4, l4, PostS.ext (r := whGo t mb f σ3 h3) p y4⟩
      | bk σ3 h3 => rw [eb] at p; exact p
      | rt w3 h3 => rw [eb] at p; exact p
      | exc _ _ _ => rw [eb] at p; exact p
      | stuck => rw [eb] at p; exact p
/-! ### comprehensions -/
abbrev W0 : WX := fun _ _ _ _ => False
/-- no exception within -/
def R.nox {α : Type} : R α → R α
  | .ok a h => .ok a h
  | _ => .stuck
@[simp] theorem R.nox_ok {α : Type} (a : α) (h : MH) : (R.ok a h).nox = .ok a h := rfl
@[simp] theorem R.nox_exc {α : Type} (x : Xn) (h : MH) : (R.exc x h : R α).nox = .stuck := rfl
@[simp] theorem R.nox_stuck {α : Type} : (R.stuck : R α).nox = .stuck := rfl
def wipeM (σ : MS) : List Nat → MS
  | [] => σ
  | v :: vs => (wipeM σ vs).set v none
theorem SlM.wipe {K : PySem.W.Frag} {b : Bs} {m : MS} {σ : L2.St} (s : SlM K b m σ) : ∀ vs, SlM K b (wipeM m vs) (wipe σ vs)
  | [] => s
  | v :: vs => by
    have ih := s.wipe vs
    refine ⟨by unfold wipeM L2.wipe; rw [List.length_set, List.length_set]; exact ih.len, fun j u e => ?_⟩
    unfold wipeM at e
    unfold L2.wipe
    by_cases hj : v = j
    · subst hj
      by_cases hi : v < (wipeM m vs).length
      · rw [List.getElem?_set_self hi] at e; cases e
      · rw [List.getElem?_eq_none (by simpa using hi)] at e; cases e
    · rw [List.getElem?_set_ne hj] at e ⊢
      exact ih.at_ j u e
def lcGo (mi : MI) (g : GM) (t : TM) (e : EM) (σ : MS) (j : Nat) : Nat → Nat → MH → R W
  | 0, i, h => match mi.nx i h with
    | some none => .ok (.ref j) h
    | _ => .stuck
  | f + 1, i, h => match mi.nx i h with
    | some none => .ok (.ref j) h
    | none => .stuck
    | some (some w) => match g w σ h with
      | none => .stuck
      | some σ1 => ((t σ1 h).nox).bind fun k h1 => if k = true then
          ((e σ1 h1).nox).bind fun y h2 => match mutAt h2 j with
            | some acc => if acc.length < sizeLine then lcGo mi g t e σ j f (i + 1) (h2.set j (.lst (acc ++ [y]))) else .stuck
            | none => .stuck
        else lcGo mi g t e σ j f (i + 1) h1
/-- the tests of a comprehension -/
def tYesM : TM := fun _ h => .ok true h
structure SPTs (X : Cx) (ifs : List Expr) (m : TM) : Prop where
  pts : PTs X ifs (tSimT X.K W0 m)
theorem spts_nil : SPTs X [] tYesM := ⟨⟨fun pins s σ H Q I ⟨b, h, σm, e, S, l, q⟩ => by
  subst e
  exact pts_nil.run pins s σ b.H Q I (q.here S rfl)⟩⟩
def eLc (it : MS → MH → R MI) (vs : List Nat) (g : GM) (t : TM) (m : EM) : EM := fun σ h => (it σ h).bind fun mi h1 => lcGo mi g t m (wipeM σ vs) h1.length mi.fuel 0 (h1 ++ [.lst []])
end
end PM
/-! Sm5: list comprehensions. -/
namespace PM
open PySem PySem.Spec L2
open PyProof.Rows hiding St
theorem Post.bindN {α β γ δ : Type} {K : PySem.W.Frag} {rel : Bs → α → β → Prop} {rel' : Bs → γ → δ → Prop} {We : Value → Option Addr → Hp → Prop} {b : Bs} {Q : δ → Hp → Prop} {r : R α} {k : α → MH → R γ} (h : Post K rel' We b Q (r.nox.bind k)) :
    Post K rel (fun _ _ _ => False) b (fun v H1 => ∃ c w g, c.H = H1 ∧ Ext K b c ∧ Sim K c g ∧ rel c w v ∧ Post K rel' We c Q (k w g)) r := by
  cases r with
  | ok w g => exact fun c v x s r => ⟨c, w, g, rfl, x, s, r, Post.ext (r := k w g) h x⟩
  | exc e g => exact h.elim
  | stuck => exact h
section
variable {X : Cx} {Wx : WX} {pos : Pos} {a c e tg iter : Expr} {ma mc me : EM} {n : AM}
theorem spts_one {t : TM} (h : STt X W0 c t) : SPTs X [c] t := ⟨pts_one h.pt⟩
/-- what a comprehension asks of its parts, for every block that may be made of them -/
structure LcP (X : Cx) (tg elt : Expr) (ifs : List Expr) (scope : Scope) (own : List (Str × Nat)) (g : GM) (t : TM) (m : EM) : Prop where
  ok : BlkOk X.N X.env.scope scope own
  g : ∀ (s : Shared) (H : Hp) (C : Addr) (cl : List (Str × Addr)) (fp : List Addr), SG (X.blk s H scope (compEnvC scope cl C X.env) fp) tg (own.map (·.2)) g
  t : ∀ (s : Shared) (H : Hp) (C : Addr) (cl : List (Str × Addr)) (fp : List Addr), SPTs (X.blk s H scope (compEnvC scope cl C X.env) fp) ifs t
  e : ∀ (s : Shared) (H : Hp) (C : Addr) (cl : List (Str × Addr)) (fp : List Addr), SE (X.blk s H scope (compEnvC scope cl C X.env) fp) W0 elt m
theorem lc_read {K : PySem.W.Frag} {Wx : WX} {it : MS → MH → R MI} {vs : List Nat} {g : GM} {t : TM} {m : EM} {σ : L2.St} {H : Hp} {Q : VK} (q : tSim K Wx (eLc it vs g t m) σ H Q) :
    tLc (iSim K Wx it) (gSim K vs g) (tSimT K W0 t) (tSim K W0 m) vs σ H Q := by
  obtain ⟨b, h, σm, e, S, l, q⟩ := q
  refine ⟨b, h, σm, e, S, l, (Post.bind (rel := ItS K) q).mono fun J H1 ⟨c, mi, g1, e, x, s, r, p⟩ D hD => ?_⟩
  subst e
  obtain ⟨xD, sD, rD⟩ := s.pushL (ys := []) (vs := []) hD .nil
  have hj : g1.length = c.n := s.len.symm
  refine ⟨fun i f H => ∃ (b : Bs) (h : MH), b.H = H ∧ Ext K (c.push D (.lst [])) b ∧ Sim K b h ∧ SlM K b (wipeM σm vs) (wipe σ vs) ∧ Post K (Rl K) (fun c d H' => Wx c d σ H') b Q (lcGo mi g t m (wipeM σm vs) g1.length f i h), ⟨mi.fuel, c.push D (.lst []), _, rfl, .refl, sD, (((l.ext x).ext xD).wipe vs), Post.ext p xD⟩, ?_⟩
  rintro i f H ⟨b, h, rfl, x2, s2, l2, p⟩
  have ri := r b h i (xD.trans x2) s2
  have atD : b.at_ g1.length = D := by
    rw [x2.ix g1.length (by rw [hj]; exact Nat.lt_succ_self _), hj]
    exact Bs.push_at _ _ _
  have rj : Rl K b (.ref g1.length) (.ref D) := by
    have := Rl.ref (K := K) (b := b) g1.length (Nat.lt_of_lt_of_le (by rw [hj]; exact Nat.lt_succ_self _) x2.le)
    rw [atD] at this
    exact this
  cases f with
  | zero =>
    unfold lcGo at p
    cases em : mi.nx i h with
    | none => rw [em] at p; exact p.elim
    | some ow =>
      cases ow with
      | none => rw [em] at p ri; exact .inl ⟨ri, p.here s2 rj⟩
      | some w => rw [em] at p; exact p.elim
  | succ f =>
    unfold lcGo at p
    cases em : mi.nx i h with
    | none => rw [em] at p; exact p.elim
    | some ow =>
      cases ow with
      | none => rw [em] at p ri; exact .inl ⟨ri, p.here s2 rj⟩
      | some w =>
        rw [em] at p ri
        dsimp only at p ri
        cases eg : g w (wipeM σm vs) h with
        | none => rw [eg] at p; exact p.elim
        | some σ1 =>
          rw [eg] at p
          dsimp only at p
          refine .inr ⟨ri.1, fun H' => ∃ (b : Bs) (h : MH), b.H = H' ∧ Ext K (c.push D (.lst [])) b ∧ Sim K b h ∧ SlM K b (wipeM σm vs) (wipe σ vs) ∧ Post K (Rl K) (fun c d H' => Wx c d σ H') b Q (lcGo mi g t m (wipeM σm vs) g1.length f (i + 1) h), fun H' z => ⟨f, Nat.lt_succ_self _, z⟩, fun v H' y => ?_⟩
          obtain ⟨c1, e1, x1, s1, r1⟩ := ri.2 v H' y
          refine ⟨c1, h, _, w, e1, s1, l2.ext x1, r1, ?_⟩
          rw [eg]
          refine fun c3 σ3 x3 s3 l3 o3 => ⟨?_, c3, h, σ1, rfl, s3, l3, ?_⟩
          · rw [o3.wipe]
            have : Off vs σ (wipe σ vs) := ⟨wipe_length _ _, fun j hj => by rw [wipe_get, if_neg hj]⟩
            rw [this.wipe]
          refine (Post.bindN (rel := rEqB) (Post.ext p (x1.trans x3))).mono fun k H4 ⟨c4, k', g4, e4, x4, s4, r4, p4⟩ => ?_
          subst e4; subst r4
          have l4 : SlM K c4 (wipeM σm vs) (wipe σ vs) := ((l2.ext x1).ext x3).ext x4
          have x04 : Ext K (c.push D (.lst [])) c4 := x2.trans (x1.trans (x3.trans x4))
          cases k' with
          | false =>
            rw [if_neg Bool.false_ne_true] at p4 ⊢
            exact ⟨c4, g4, rfl, x04, s4, l4, p4⟩
          | true =>
            rw [if_pos rfl] at p4 ⊢
            refine ⟨c4, g4, σ1, rfl, s4, l3.ext x4, (Post.bindN (rel := Rl K) p4).mono fun y H5 ⟨c5, yw, g5, e5, x5, s5, r5, p5⟩ => ?_⟩
            subst e5
            cases ea : mutAt g5 g1.length with
            | none => rw [ea] at p5; exact p5.elim
            | some acc =>
              rw [ea] at p5
              dsimp only at p5
              by_cases hz : acc.length < sizeLine
              · rw [if_pos hz] at p5
                obtain ⟨us, h6, r6, lt6⟩ := s5.mut ea
                have at5 : c5.at_ g1.length = D := by
                  rw [(x3.trans (x4.trans x5)).ix _ (Nat.lt_of_lt_of_le (Nat.lt_of_lt_of_le (by rw [hj]; exact Nat.lt_succ_self _) x2.le) x1.le), x1.ix _ (Nat.lt_of_lt_of_le (by rw [hj]; exact Nat.lt_succ_self _) x2.le), atD]
                rw [at5] at h6
                obtain ⟨x7, s7⟩ := s5.putL (ys := acc ++ [yw]) (vs := us ++ [y]) ea (r6.append (.cons r5 .nil))
                refine ⟨us, h6, by rw [← r6.length]; exact hz, c5.put g1.length (.lst (us ++ [y])), _, ?_, x04.trans (x5.trans x7), s7, (l4.ext x5).ext x7, Post.ext p5 x7⟩
                show upd c5.H (c5.at_ g1.length) _ = _
                rw [at5]
              · rw [if_neg hz] at p5; exact p5.elim
theorem se_lc {ifs : List Expr} {scope : Scope} {own : List (Str × Nat)} {it : MS → MH → R MI} {g : GM} {t : TM} {m : EM} {elt : Expr} (hc : X.calm = true) (hN : X.N.Nodup) (hi : SI X Wx tg iter it) (L : LcP X tg elt ifs scope own g t m)
    (hs : ∀ x, foldedSetIterable iter X.env x = pure x := by intro _; rfl) : SE X Wx (.ListComp elt [⟨tg, iter, ifs, 0⟩] scope pos) (eLc it (own.map (·.2)) g t m) :=
  ⟨pe_imp (pe_lc (g := gSim X.K (own.map (·.2)) g) (tt := tSimT X.K W0 t) (te := tSim X.K W0 m) hc hN hi.pi L.ok (fun s H C cl fp => (L.g s H C cl fp).pg) (fun s H C cl fp => (L.t s H C cl fp).pts) (fun s H C cl fp => (L.e s H C cl fp).pe) hs) fun σ H Q q => lc_read q⟩
/-- name = [..] -/
theorem ss_setLc {i : Nat} {y : Str} {py : Pos} {ifs : List Expr} {scope : Scope} {own : List (Str × Nat)} {it : MS → MH → R MI} {g : GM} {t : TM} {m : EM} {elt : Expr} {spos : Pos} (hc : X.calm = true) (hN : X.N.Nodup) (hy : X.N[i]? = some y) (hyl : X.env.scope.names.lookup y = some .local)
    (hsw : swapsWith (.ListComp elt [⟨tg, iter, ifs, 0⟩] scope pos) (some (.Name y py)) spos.line X.env = pure true) (hi : SI X Wx tg iter it) (L : LcP X tg elt ifs scope own g t m)
    (hs : ∀ x, foldedSetIterable iter X.env x = pure x := by intro _; rfl) : SS X Wx (.Assign [.Name y py] (.ListComp elt [⟨tg, iter, ifs, 0⟩] scope pos) spos) (sSet i (eLc it (own.map (·.2)) g t m)) := by
  refine ⟨ps_imp (ps_setLc (g := gSim X.K (own.map (·.2)) g) (tt := tSimT X.K W0 t) (te := tSim X.K W0 m) hc hN hy hyl hsw hi.pi L.ok (fun s H C cl fp => (L.g s H C cl fp).pg) (fun s H C cl fp => (L.t s H C cl fp).pts) (fun s H C cl fp => (L.e s H C cl fp).pe) hs) fun D σ H ⟨b, h, σm, e, S, l, q⟩ => ?_⟩
  refine lc_read ⟨b, h, σm, e, S, l, ?_⟩
  refine (PostS.st (rel := Rl X.K) l q).mono fun v H1 ⟨c, w, g, e, x, s, r, p⟩ => ?_
  subst e
  exact p c _ .refl s ((l.ext x).set i r)
end
end PM
/-! Sm6: defs by their mirrors; calls; a law's entry. -/
namespace PM
open PySem PySem.Spec L2
open PyProof.Rows hiding St
/-- a def's mirror of its body's: np parameters, ns slots -/
def mkF (np ns : Nat) (body : SM) : FM := fun ws h => if ws.length = np then
    match body (ws.map some ++ List.replicate (ns - np) none) h with
    | .nx _ g => .ok .non g
    | .rt w g => .ok w g
    | .exc x _ g => .exc x g
    | _ => .stuck
  else .stuck
/-- the def at f does what m tells; no repr is under way where it is called -/
structure FnG (P : Program) (w : World) (K : PySem.W.Frag) (mg : Str → Option Value) (base : Heap) (k : Nat) (f : Addr) (fd : FuncData) (ps : List Str) (m : FM) : Prop where
  len : ∀ ws h, ws.length ≠ ps.length → m ws h = .stuck
  run : ∀ (A : Around) (outer : List Env) (s : Shared) (b : Bs) (h : MH) (args : Args) (us : List Value) (vs : List V) (ws : List W) (Q : VK) (E : XK), Room k A → A.guards = some [] → Env0 P w K mg base A outer s b.H → BindsTo s fd args (ps.zip us) → Vals vs us →
    Sim K b h → Rls K b ws vs → Post K (Rl K) E b Q (m ws h) → codeAny (model P w) A (.call (.ref f) args) (CR (L2.CX P w) outer P w b.H s Q E) s
theorem FnG.mono {P : Program} {w : World} {K : PySem.W.Frag} {mg : Str → Option Value} {base : Heap} {j k : Nat} {f : Addr} {fd : FuncData} {ps : List Str} {m : FM} (F : FnG P w K mg base j f fd ps m) (h : j ≤ k) : FnG P w K mg base k f fd ps m :=
  ⟨F.len, fun A outer s b g args us vs ws Q E hr => F.run A outer s b g args us vs ws Q E (hr.mono h)⟩
section
variable {P : Program} {w : World} {K : PySem.W.Frag} {mg : Str → Option Value} {base : Heap}
/-- the wish of a def's body -/
abbrev WxOf (E : XK) : WX := fun c d _ H => E c d H
theorem slots_start {b : Bs} {ws : List W} {vs : List V} {N : List Str} (r : Rls K b ws vs) : SlM K b (ws.map some ++ List.replicate (N.length - ws.length) none) (start N vs) := by
  unfold L2.start
  refine ⟨by simp [r.length], fun i w e => ?_⟩
  by_cases hi : i < ws.length
  · rw [List.getElem?_append_left (by simpa using hi), List.getElem?_map] at e
    cases ew : ws[i]? with
    | none => rw [ew] at e; cases e
    | some w' =>
      rw [ew] at e; cases e
      obtain ⟨v, hv, rv⟩ := r.get ew
      refine ⟨v, ?_, rv⟩
      rw [List.getElem?_append_left (by simp [← r.length]; exact hi), List.getElem?_map, hv]; rfl
  · rw [List.getElem?_append_right (by simpa using hi), List.getElem?_replicate] at e
    split at e <;> cases e
/-- a def by its body -/
theorem fnG_of {k : Nat} {f : Addr} {name qual : Str} {params : Arguments} {body : List Stmt} {scope : Scope} {dvs : List V} {kws : List (Str × V)} {fd : FuncData} {N ps : List Str} {m : SM} (F : FunD K name qual params body scope dvs kws f fd) (S : FnScope N ps scope)
    (hbody : ∀ (cdv : Value) (A : Around) (outer : List Env) (s : Shared) (H : Hp) (E : XK), Room k (A.deeper (envOfC qual scope s.heap.objs.size f cdv)) → (A.deeper (envOfC qual scope s.heap.objs.size f cdv)).guards = some [] →
      SSs (cxOf (L2.CX P w) P w K mg base N qual scope f cdv A outer s H E) (WxOf E) body m) : FnG P w K mg base (k + 1) f fd ps (mkF ps.length N.length m) := by
  obtain ⟨oc, od, dV, kV, doc, pm, an, cdv, ct, osl, rfl, lk, hcd, _, _⟩ := F.ex
  refine ⟨fun ws h e => if_neg e, fun A outer s b h args us vs ws Q E hr hg e0 hb rv sim rw q => ?_⟩
  unfold mkF at q
  by_cases hl : ws.length = ps.length
  case neg => rw [if_neg hl] at q; exact q.elim
  rw [if_pos hl] at q
  have hlv : vs.length = ps.length := by rw [← rw.length]; exact hl
  have kin : K.In s.heap := e0.mod.kin.keeps fun b o e => (e0.bs b o e).1
  have lim : s.heap.NoLimit := e0.mod.nolimit.keeps fun b o e => (e0.bs b o e).1
  have kinds : ∀ y ∈ ps.zip us, scope.names.lookup y.1 = some .local ∨ (scope.names.lookup y.1 = some .cell ∧ ((cellsFrom (s.heap.objs.size + 1) scope.names []).lookup y.1).isSome = true) := fun ⟨z, v⟩ hy =>
    (S.par z (List.of_mem_zip hy).1).elim .inl fun q => .inr ⟨q, PySem.W.cellsFrom_some _ _ _ (.inl q)⟩
  refine codeAny_call_function hr.depth (kin _ _ lk) rfl S.co S.gen rfl (PySem.W.codeRec_of kin hcd) (hb _ _ _ _ (wpAny_newFunctionEnv_cells S.kind kinds fun env he s1 x => ?_))
  subst he
  refine ⟨lim.keeps x.toInCall.keep, codeAny_func ?_⟩
  have B := hbody cdv A outer s b.H E (hr.deeper _) hg
  have I : Inv (cxOf (L2.CX P w) P w K mg base N qual scope f cdv A outer s b.H E) [] (start N vs) b.H s1 := inv_start S hr.hd e0 hlv rv x
  have run := B.ps.run [] s1 (start N vs) b.H { nx := fun _ H' => Q .non H', rt := Q } I ⟨b, h, _, rfl, sim, slots_start rw, (by
    rw [hl]
    cases eb : m (ws.map some ++ List.replicate (N.length - ps.length) none) h with
    | nx σm g => rw [eb] at q; exact fun c σ x s _ => q c .non x s .non
    | rt w g => rw [eb] at q; exact q
    | bk _ _ => rw [eb] at q; exact q.elim
    | ct _ _ => rw [eb] at q; exact q.elim
    | exc x σm g => rw [eb] at q; exact fun c σ x s _ => q c x s
    | stuck => rw [eb] at q; exact q)⟩
  refine wpAny_mono run (fun fl s' hs => ?_) fun e s' hs => hs
  have fin : ∀ {σ' : L2.St} {H' : Hp} {v : V} {u : Value}, Inv (cxOf (L2.CX P w) P w K mg base N qual scope f cdv A outer s b.H E) [] σ' H' s' → RelV v u → Q v H' → CE outer P w b.H s Q u s' :=
    fun {σ' H' v u} J rv q => ⟨v, H', J.os, J.bare, J.base, J.hok, rv, q⟩
  cases fl with
  | next => obtain ⟨σ', H', J, q⟩ := hs; exact fin (v := V.non) (u := Value.none) J rfl q
  | ret u => obtain ⟨v, σ', H', J, rv, q⟩ := hs; exact fin J rv q
  | brk => obtain ⟨_, _, _, q⟩ := hs; exact False.elim q
  | cont => obtain ⟨_, _, _, q⟩ := hs; exact False.elim q
end

section
variable {X : Cx} {Wx : WX} {k : Nat} {f : Addr} {fd : FuncData} {ps ks : List Str} {m : FM} {dvs : List V} {ds : List Value} {dws : List W} {x : Str} {p pos : Pos} {e : Expr} {es : List Expr} {kws : List Keyword} {n nk : AM}
/-- the callee runs, its arguments bound to the values us -/
theorem FnG.call (F : FnG X.prog X.w X.K X.mg X.base k f fd ps m) (hr : Room k X.A) (hg : X.A.guards = some []) (tk : Takes X Wx) {pins : List (Addr × Obj)} {σ : L2.St} {b : Bs} {h : MH} {s : Shared} {Q : VK} {us : List Value} {vs : List V} {ws : List W} {args : Args}
    (I : Inv X pins σ b.H s) (hb : us.length = ps.length → BindsTo s fd args (ps.zip us)) (rv : Vals vs us) (S : Sim X.K b h) (rw : Rls X.K b ws vs) (q : Post X.K (Rl X.K) (fun c d H' => Wx c d σ H') b Q (m ws h)) : codeAny (model X.prog X.w) X.A (.call (.ref f) args) (fun r s' => match r with
      | .ok (.ret u) => EP X pins σ Q u s'
      | .ok _ => False
      | .error e => X.xe e s') s := by
  have hl : us.length = ps.length := by
    rw [← rv.length, ← rw.length]
    exact Classical.byContradiction fun z => by rw [F.len ws h z] at q; exact q
  refine codeAny_mono (F.run X.A X.stack s b h args us vs ws Q (fun c d H' => Wx c d σ H') hr hg I.env0 (hb hl) rv S rw q) fun r s' hq => ?_
  cases r with
  | error e => exact tk e s' (XE.of_call I (fun _ _ _ z => z) hq)
  | ok fl => cases fl with
    | ret u => exact I.after hq
    | next => exact hq
    | brk => exact hq
    | cont => exact hq
theorem callAny_of {M : Model} {A : Around} {g : Value} {us : List Value} {kw : List (Str × Value)} {Q : Value → Shared → Prop} {E : Value → Shared → Prop} {s : Shared} (h : codeAny M A (.call g ⟨us, kw⟩) (fun r s' => match r with
      | .ok (.ret u) => Q u s'
      | .ok _ => False
      | .error e => E e s') s) : wpAny M A (call g us kw) Q E s := wpAny_call (codeAny_mono h fun r s' hq => by
  cases r with
  | error e => exact hq
  | ok fl => cases fl with
    | ret u => exact hq
    | next => exact hq.elim
    | brk => exact hq.elim
    | cont => exact hq.elim)
/-- f(e, ..) -/
theorem se_call (F : FnG X.prog X.w X.K X.mg X.base k f fd ps m) (hr : Room k X.A) (hgd : X.A.guards = some []) (tk : Takes X Wx) (hg : Gl X x) (hm : X.mg x = some (.ref f)) (hk : PySem.W.keepIn X.K (.ref f) = true) (hb : Binds X.K fd ps ds) (hd : Vals dvs ds) (hdw : ∀ b, Rls X.K b dws dvs)
    (ha : SA X Wx (e :: es) n) (hdb : (x == ("__debug__" : Str)) = false := by decide) (he : starEach (e :: es) X.env = (false, eval e X.env) :: starEach es X.env := by rfl) (hpl : (backTo pos (starEach es X.env)).any (·.1) = false := by rfl) :
    SE X Wx (.Call (.Name x p) (e :: es) [] pos) (eCall (fun ws => m (ws ++ dws)) n) := by
  refine ⟨⟨fun pins s σ H Q I q => ?_⟩⟩
  obtain ⟨b, h, σm, rfl, S, l, q⟩ := q
  refine wpAny_Call_Name_kw (ld_glob I hg hm ?_ hdb)
  refine PySem.W.callWith_K (h₀ := X.base) I.ok.mod.kin hk (thn (ha.run pos I S l (Post.bind q)) fun us s1 ⟨vs, H1, I1, r1, c1, ws, h1, e1, E1, S1, l1, q1⟩ => ?_) he hpl
  subst e1
  exact ⟨I1.kIn, callAny_of (F.call hr hgd tk I1 (fun hl => hb s1 us I1.kIn hl) (r1.append hd) S1 (l1.append (hdw _)) q1)⟩
/-- f() -/
theorem se_call0 (F : FnG X.prog X.w X.K X.mg X.base k f fd ps m) (hr : Room k X.A) (hgd : X.A.guards = some []) (tk : Takes X Wx) (hg : Gl X x) (hm : X.mg x = some (.ref f)) (hk : PySem.W.keepIn X.K (.ref f) = true) (hb : Binds X.K fd ps ds) (hd : Vals dvs ds) (hdw : ∀ b, Rls X.K b dws dvs)
    (hdb : (x == ("__debug__" : Str)) = false := by decide) : SE X Wx (.Call (.Name x p) [] [] pos) (eCall (fun ws => m (ws ++ dws)) aNil) := by
  refine ⟨⟨fun pins s σ H Q I q => ?_⟩⟩
  obtain ⟨b, h, σm, rfl, S, l, q⟩ := q
  refine wpAny_Call_Name_kw (ld_glob I hg hm ?_ hdb)
  exact PySem.W.callWith_K0 I.kIn hk (callAny_of (F.call (vs := dvs) (ws := dws) hr hgd tk I (fun hl => hb s [] I.kIn hl) (show Vals dvs ([] ++ ds) from hd) S (hdw _) q))
/-! ### keywords -/
def tSimK (K : PySem.W.Frag) (Wx : WX) (m : AM) : TA := tSimA K Wx m
structure SK (X : Cx) (Wx : WX) (kws : List Keyword) (m : AM) : Prop where
  pk : PK X kws (tSimA X.K Wx m)
theorem pk_imp {kws : List Keyword} {t u : TA} (h : PK X kws t) (m : ∀ σ H Q, u σ H Q → t σ H Q) : PK X kws u := ⟨fun pos pins s σ H Q I q => h.run pos pins s σ H Q I (m _ _ _ q)⟩
theorem sk_nil : SK X Wx [] aNil := ⟨pk_imp pk_nil fun σ H Q ⟨b, h, σm, e, S, l, q⟩ => by subst e; exact q.here S .nil⟩
theorem sk_cons {kpos : Pos} {nm : Option Str} {me : EM} (ha : SE X Wx e me) (hr : SK X Wx kws n) : SK X Wx (⟨nm, e, kpos⟩ :: kws) (aCons me n) := by
  refine ⟨pk_imp (pk_cons ha.pe hr.pk) fun σ H Q ⟨b, h, σm, e, S, l, q⟩ => ?_⟩
  refine ⟨b, h, σm, e, S, l, (Post.bind q).mono fun v H1 ⟨c, w, g, e, x, s, r, p⟩ => ?_⟩
  refine ⟨c, g, σm, e, s, l.ext x, (Post.bind p).mono fun vs H2 ⟨c2, ws, g2, e2, x2, s2, r2, p2⟩ => ?_⟩
  subst e2
  exact p2.here s2 (.cons (r.ext x2) r2)
/-- how a call with keywords binds: the positional values, the keywords' values (names ks), in the parameters' order -/
structure KbG (K : PySem.W.Frag) (fd : FuncData) (ps ks : List Str) (np : Nat) (g : List Value → List Value → List Value) (gV : List V → List V → List V) (gW : List W → List W → List W) : Prop where
  to : ∀ (s : Shared) (us ws : List Value), K.In s.heap → us.length = np → ws.length = ks.length → (g us ws).length = ps.length → BindsTo s fd ⟨us, ks.zip ws⟩ (ps.zip (g us ws))
  rel : ∀ {vs : List V} {us : List Value} {zs : List V} {ws : List Value}, Vals vs us → Vals zs ws → Vals (gV vs zs) (g us ws)
  relW : ∀ {b : Bs} {us ws : List W} {vs zs : List V}, Rls K b us vs → Rls K b ws zs → Rls K b (gW us ws) (gV vs zs)
variable {g : List Value → List Value → List Value} {gV : List V → List V → List V} {gW : List W → List W → List W} {np : Nat}
def eCallK (np nk : Nat) (m : List W → List W → MH → R W) (n k : AM) : EM := fun σ h => (n σ h).bind fun ws h1 => (k σ h1).bind fun zs h2 => if ws.length = np ∧ zs.length = nk then m ws zs h2 else .stuck
theorem run_kw (F : FnG X.prog X.w X.K X.mg X.base k f fd ps m) (hr : Room k X.A) (hgd : X.A.guards = some []) (tk : Takes X Wx) (hb : KbG X.K fd ps ks np g gV gW) {pins : List (Addr × Obj)} {σ : L2.St} {b : Bs} {h : MH} {s : Shared} {Q : VK} {us zs : List Value} {vs ys : List V} {ws xs : List W}
    (I : Inv X pins σ b.H s) (rv : Vals vs us) (ry : Vals ys zs) (S : Sim X.K b h) (rw : Rls X.K b ws vs) (rx : Rls X.K b xs ys) (q : Post X.K (Rl X.K) (fun c d H' => Wx c d σ H') b Q (if ws.length = np ∧ xs.length = ks.length then m (gW ws xs) h else .stuck)) :
    wpAny (model X.prog X.w) X.A (call (.ref f) us (ks.zip zs)) (EP X pins σ Q) X.xe s := by
  by_cases hl : ws.length = np ∧ xs.length = ks.length
  case neg => rw [if_neg hl] at q; exact q.elim
  rw [if_pos hl] at q
  exact callAny_of (F.call hr hgd tk I (fun hz => hb.to s us zs I.kIn (by rw [← rv.length, ← rw.length]; exact hl.1) (by rw [← ry.length, ← rx.length]; exact hl.2) hz) (hb.rel rv ry) S (hb.relW rw rx) q)
theorem se_callK (F : FnG X.prog X.w X.K X.mg X.base k f fd ps m) (hr : Room k X.A) (hgd : X.A.guards = some []) (tk : Takes X Wx) (hg : Gl X x) (hm : X.mg x = some (.ref f)) (hk : PySem.W.keepIn X.K (.ref f) = true) (hb : KbG X.K fd ps ks np g gV gW)
    (ha : SA X Wx (e :: es) n) (hkw : SK X Wx kws nk) (hall : (backToKw pos (keywordEach kws X.env)).all (·.1.isSome) = true := by rfl) (hks : (backToKw pos (keywordEach kws X.env)).filterMap (·.1) = ks := by rfl)
    (hdb : (x == ("__debug__" : Str)) = false := by decide) (he : starEach (e :: es) X.env = (false, eval e X.env) :: starEach es X.env := by rfl)
    (hpl : ((backTo pos (starEach (e :: es) X.env)).any (·.1) || (backToKw pos (keywordEach kws X.env)).any (·.1.isNone)) = false := by rfl) :
    SE X Wx (.Call (.Name x p) (e :: es) kws pos) (eCallK np ks.length (fun ws zs => m (gW ws zs)) n nk) := by
  refine ⟨⟨fun pins s σ H Q I q => ?_⟩⟩
  obtain ⟨b, h, σm, rfl, S, l, q⟩ := q
  refine wpAny_Call_Name_kw (ld_glob I hg hm ?_ hdb)
  refine PySem.W.callWith_KW (h₀ := X.base) I.ok.mod.kin hk hall (thn (ha.run pos I S l (Post.bind q)) fun us s1 ⟨vs, H1, I1, r1, c1, ws, h1, e1, E1, S1, l1, q1⟩ => ?_) hpl he
  subst e1
  refine thn (hkw.pk.run pos pins s1 σ _ _ I1 ⟨c1, h1, σm, rfl, S1, l.ext E1, Post.bind q1⟩) fun zs s2 ⟨ys, H2, I2, r2, c2, xs, h2, e2, E2, S2, l2, q2⟩ => ?_
  subst e2
  refine ⟨I2.kIn, ?_⟩
  rw [hks]
  exact run_kw F hr hgd tk hb I2 r1 r2 S2 (l1.ext E2) l2 q2
end
end PM
/-! Sm7: a law's entry. -/
namespace PM
open PySem PySem.Spec L2
open PyProof.Rows hiding St
/-- the mirror's heap at a law's entry: the script -/
def script0 (ns : List Int) : MH := [.ro (ns.map W.int)]
theorem rls_ints {K : PySem.W.Frag} {b : Bs} : ∀ ns : List Int, Rls K b (ns.map W.int) (ns.map V.int)
  | [] => .nil
  | z :: zs => .cons (.int z) (rls_ints zs)
/-- the law's run from its mirror's -/
theorem law_mirror {P : Program} {w : World} {K : PySem.W.Frag} {mg mb : Str → Option Value} {k : Nat} {fa a : Addr} {fd : FuncData} {x : Str} {m : FM} {s₁ : Shared} {vs : List Value} {ns : List Int}
    (KX : K.In s₁.heap) (hns : s₁.heap.Ns mainGlobals mg) (hb : s₁.heap.Ns builtinsNs mb) (hbb : ∀ x : Str, x ≠ "__name__" → mb x = bootBuiltins x) (hlim : s₁.heap.NoLimit) (hg : s₁.gens = #[])
    (ha : s₁.heap.get? a = some { cls := .type "list", data := .seq vs.toArray }) (hi : IntsAre vs ns) (hl : ns.length ≤ sizeLine) (hr : Room k callerA)
    (F : ∀ base : Heap, K.In base → base.Ns mainGlobals mg → FnG P w K mg base k fa fd [x] m) (hbind : ∀ (s : Shared) (u : Value), BindsTo s fd ⟨[u], []⟩ [(x, u)])
    (hm : ∃ h, m [.ref 0] (script0 ns) = .ok (.bl true) h) :
    codeAny (model P w) callerA (.call (.ref fa) ⟨[.ref a], []⟩) (fun r s' => r = .ok (.ret (.bool true)) ∧ OldK s₁.heap s'.heap ∧ s'.os = s₁.os ∧ AllBare s'.gens) s₁ := by
  obtain ⟨hEnd, hm⟩ := hm
  have vint := vals_ints hi
  have lens := hi.length
  -- whatever is tracked: nothing, or the script, locked
  have main : ∀ H : Hp, (∀ b, H b = none ∨ ∃ o xs, H b = some (.frz o (.lst xs))) → (∀ b, H b ≠ none → b = a ∧ K.lookup a = none) → HOk P w H s₁.heap → ((∃ o, H a = some (.frz o (.lst (ns.map V.int)))) ∨ SqL K (fun _ => none) a (ns.map V.int)) →
      codeAny (model P w) callerA (.call (.ref fa) ⟨[.ref a], []⟩) (fun r s' => r = .ok (.ret (.bool true)) ∧ OldK s₁.heap s'.heap ∧ s'.os = s₁.os ∧ AllBare s'.gens) s₁ := by
    intro H only onlyA hok hS
    have free : ∀ {b : Addr} {o : Obj}, s₁.heap.get? b = some o → H b = none → (hidT s₁.heap H).get? b = some o := fun e n => hidT_get e n
    have noDict : ∀ {b : Addr} {o : Obj} {es : Array DictEntry} {ep : Nat}, s₁.heap.get? b = some o → o.data = .dict es ep → H b = none := fun {b o es ep} e d => Classical.byContradiction fun q => by
      have z := (onlyA b q).1
      subst z
      rw [ha] at e; cases e
      have d' : Data.seq vs.toArray _ = Data.dict es ep := d
      cases d'
    have nsH : ∀ {b : Addr} {m : Str → Option Value}, s₁.heap.Ns b m → (hidT s₁.heap H).Ns b m := fun {b m} ⟨o, es, ep, e, d, r⟩ => ⟨o, es, ep, free e (noDict e d), d, r⟩
    have kinH : K.In (hidT s₁.heap H) := fun b o e => free (KX b o e) (Classical.byContradiction fun q => by
      obtain ⟨z, n⟩ := onlyA b q
      subst z
      rw [n] at e; cases e)
    have M : Mod K mg (hidT s₁.heap H) := ⟨kinH, nsH hns, ⟨mb, nsH hb, hbb⟩, let ⟨mc, h1, h2⟩ := hlim; ⟨mc, nsH h1, h2⟩⟩
    have e0 : Env0 P w K mg (hidT s₁.heap H) callerA [] s₁ H := ⟨rfl, M, fun b o e => of_hidT e, Nat.le_of_eq (hidT_size _ _), trivial, fun b hb => (List.not_mem_nil hb).elim, hok, .of_eq hg⟩
    have sim : Sim K ⟨fun _ => a, 1, H⟩ (script0 ns) := by
      refine ⟨rfl, fun i o e => ?_, fun i j o u e e' hr _ _ => ?_⟩
      · cases i with
        | zero =>
          cases e
          exact ⟨ns.map V.int, hS, rls_ints ns⟩
        | succ i => cases e
      · cases i with
        | zero => cases e; cases hr
        | succ i => cases e
    refine codeAny_mono ((F _ kinH (nsH hns)).run callerA [] s₁ ⟨fun _ => a, 1, H⟩ (script0 ns) ⟨[.ref a], []⟩ [.ref a] [.ref a] [.ref 0] (fun v _ => v = .bl true) (fun _ _ _ => False) hr rfl e0 (hbind s₁ (.ref a)) (.cons rfl .nil) sim (.cons (.ref 0 (Nat.lt_succ_self 0)) .nil) (by
      rw [hm]
      intro c v _ _ r
      cases r
      rfl)) fun r s' h => ?_
    cases r with
    | error e =>
      obtain ⟨_, _, _, _, _, _, _, _, _, _, _, _, z⟩ := h
      exact z.elim
    | ok fl =>
      cases fl with
      | next => exact False.elim h
      | brk => exact False.elim h
      | cont => exact False.elim h
      | ret u =>
        obtain ⟨v, H', os, bare, un, hok', r', q⟩ := h
        cases q
        cases (show u = Value.bool true from r')
        refine ⟨rfl, OldK.of_keep fun b o e => ?_, os, bare⟩
        cases q : H b with
        | none => exact un.keep b o e q (fun z => List.not_mem_nil z) (fun z => List.not_mem_nil z)
        | some u =>
          rcases only b with z | ⟨ob, xs, z⟩
          · rw [q] at z; cases z
          · have z2 := un.frzs b ob _ z
            have e1 := (show _ ∧ _ from hok b _ z).1
            have e2 := (show _ ∧ _ from hok' b _ z2).1
            rw [e] at e1; cases e1
            exact e2
  cases hk : K.lookup a with
  | some o =>
    have e := KX a o hk
    rw [ha] at e
    cases e
    exact main (fun _ => none) (fun _ => .inl rfl) (fun _ z => absurd rfl z) (fun b u z => nomatch (show (none : Option HO) = some u from z)) (.inr (.inr ⟨_, vs.toArray, _, hk, rfl, rfl, rfl, by rw [List.size_toArray, lens]; exact hl, by simpa using vint⟩))
  | none =>
    refine main (fun b => if b = a then some (.frz { cls := .type "list", data := .seq vs.toArray } (.lst (ns.map V.int))) else none) (fun b => ?_) (fun b z => ?_) (fun b u z => ?_) (.inl ⟨{ cls := .type "list", data := .seq vs.toArray }, if_pos rfl⟩)
    · by_cases q : b = a
      · exact .inr ⟨_, _, if_pos q⟩
      · exact .inl (if_neg q)
    · exact Classical.byContradiction fun q => by
        by_cases e : b = a
        · exact q ⟨e, hk⟩
        · exact z (if_neg e)
    · by_cases q : b = a
      · subst q
        cases (if_pos rfl).symm.trans z
        exact ⟨ha, by rw [List.length_map]; exact hl, vs, _, vint, ha⟩
      · cases (if_neg q).symm.trans z
/-- a law by its mirror -/
theorem walk_mirror {l : PySem.W.OpenLaw} {n k : Nat} {q : Program} {loose : List Str} {XP : (Str → Option Value) → Heap → Prop} {YP : World → Heap → Prop} {d : DefRec} {x : Str}
    (hn : l.most = some n) (hn2 : n ≤ sizeLine) (hdf : d.params.defaults = []) (hr : Room k callerA)
    (F : ∀ (w : World) (mg : Str → Option Value) (fa : Addr) (h : Heap), YP w h → h.Ns mainGlobals mg → mg d.name = some (.ref fa) →
      ∃ (K : PySem.W.Frag) (fd : FuncData) (m : FM), K.In h ∧ (∀ (s : Shared) (u : Value), BindsTo s fd ⟨[u], []⟩ [(x, u)]) ∧
        (∀ ns : List Int, ns.length ≤ n → (∀ z ∈ ns, Builtin.Int.intBits z ≤ 1048576) → ∃ g, m [.ref 0] (script0 ns) = .ok (.bl true) g) ∧
        ∀ base : Heap, K.In base → base.Ns mainGlobals mg → FnG l.prog w K mg base k fa fd [x] m) :
    PySem.W.WalkO q loose XP YP l.row.toRowW d [] (fun f vs => PySem.call f vs) := by
  refine Att.attach_callB hn hdf fun w s₀ s₁ mg mb fa o pm cd doc a vs ns G Y ho hd hcd hmg hobj hints hlen hbits hg => ?_
  obtain ⟨K, fd, m, KX, hb, hm, hF⟩ := F w mg fa _ Y G.T.g hmg
  exact law_mirror KX G.T.g G.T.b G.T.builtins G.T.nolimit hg hobj hints (Nat.le_trans hlen hn2) hr hF hb (hm ns hlen hbits)
end PM
/-! Sm8: operators, comparisons, subscripts. -/
namespace PM
open PySem PySem.Spec L2
open PyProof.Rows hiding St
/-! ### one rule or another -/
def opAlt (m n : W → W → MH → R W) : W → W → MH → R W := fun x y h => match m x y h with
  | .stuck => n x y h
  | r => r
def clAlt (m n : List W → MH → R W) : List W → MH → R W := fun ws h => match m ws h with
  | .stuck => n ws h
  | r => r
def eAlt (m n : EM) : EM := fun σ h => match m σ h with
  | .stuck => n σ h
  | r => r
section
variable {X : Cx} {Wx : WX}
theorem OpS.alt {f : Value → Value → Sem Value} {m n : W → W → MH → R W} (a : OpS X Wx f m) (c : OpS X Wx f n) : OpS X Wx f (opAlt m n) := by
  refine ⟨fun pins s σ b h x y x' y' v u Q I S r1 r2 rv ru q => ?_⟩
  unfold opAlt at q
  cases e : m x y h with
  | ok w g => rw [e] at q; exact a.run pins s σ b h x y x' y' v u Q I S r1 r2 rv ru (by rw [e]; exact q)
  | exc w g => rw [e] at q; exact a.run pins s σ b h x y x' y' v u Q I S r1 r2 rv ru (by rw [e]; exact q)
  | stuck => rw [e] at q; exact c.run pins s σ b h x y x' y' v u Q I S r1 r2 rv ru q
theorem CallS.alt {f : Value} {m n : List W → MH → R W} (a : CallS X Wx f m) (c : CallS X Wx f n) : CallS X Wx f (clAlt m n) := by
  refine ⟨fun pins s σ b h ws vs us Q I S r1 rv q => ?_⟩
  unfold clAlt at q
  cases e : m ws h with
  | ok w g => rw [e] at q; exact a.run pins s σ b h ws vs us Q I S r1 rv (by rw [e]; exact q)
  | exc w g => rw [e] at q; exact a.run pins s σ b h ws vs us Q I S r1 rv (by rw [e]; exact q)
  | stuck => rw [e] at q; exact c.run pins s σ b h ws vs us Q I S r1 rv q
theorem se_alt {e : Expr} {m n : EM} (a : SE X Wx e m) (c : SE X Wx e n) : SE X Wx e (eAlt m n) := by
  refine ⟨⟨fun pins s σ H Q I ⟨b, h, σm, eH, S, l, q⟩ => ?_⟩⟩
  unfold eAlt at q
  cases e : m σm h with
  | ok w g => rw [e] at q; exact a.pe.run pins s σ H Q I ⟨b, h, σm, eH, S, l, by rw [e]; exact q⟩
  | exc w g => rw [e] at q; exact a.pe.run pins s σ H Q I ⟨b, h, σm, eH, S, l, by rw [e]; exact q⟩
  | stuck => rw [e] at q; exact c.pe.run pins s σ H Q I ⟨b, h, σm, eH, S, l, q⟩
end
/-! ### arithmetic -/
def iOp (C : Int → Int → Bool) (g : Int → Int → W) : W → W → MH → R W
  | .int i, .int j, h => if C i j then .ok (g i j) h else .stuck
  | _, _, _ => .stuck
section
variable {X : Cx} {Wx : WX}
theorem os_int {f : Value → Value → Sem Value} {Cp : Int → Int → Prop} {C : Int → Int → Bool} {g : Int → Int → V} {gw : Int → Int → W} (ho : OpR X f (rI Cp g)) (hC : ∀ i j, C i j = true → Cp i j) (hg : ∀ i j b, Rl X.K b (gw i j) (g i j)) : OpS X Wx f (iOp C gw) :=
  .of ho fun σ b h x y x' y' Q S r1 r2 q => by
    cases r1 <;> first | exact q.elim | skip
    cases r2 <;> first | exact q.elim | skip
    rename_i i j
    unfold iOp at q
    dsimp only at q
    split at q
    · rename_i hc
      exact ⟨i, j, rfl, rfl, hC i j hc, q.here S (hg i j b)⟩
    · exact q.elim
theorem os_int0 {f : Value → Value → Sem Value} {g : Int → Int → V} {gw : Int → Int → W} (ho : OpR X f (rI0 g)) (hg : ∀ i j b, Rl X.K b (gw i j) (g i j)) : OpS X Wx f (iOp (fun _ _ => true) gw) :=
  .of ho fun σ b h x y x' y' Q S r1 r2 q => by
    cases r1 <;> first | exact q.elim | skip
    cases r2 <;> first | exact q.elim | skip
    rename_i i j
    exact ⟨i, j, rfl, rfl, q.here S (hg i j b)⟩
/-- +: ints, texts, lists -/
def bAdd : W → W → MH → R W
  | .int i, .int j, h => .ok (.int (i + j)) h
  | .str x, .str y, h => if x.length + y.length ≤ sizeLine then .ok (.str (x ++ y)) h else .stuck
  | .ref i, .ref j, h => match mutAt h i, mutAt h j with
    | some xs, some ys => if xs.length + ys.length ≤ sizeLine then .ok (.ref h.length) (h ++ [.lst (xs ++ ys)]) else .stuck
    | _, _ => .stuck
  | _, _, _ => .stuck
theorem os_add : OpS X Wx (binaryOp .Add) bAdd := .of (op_add.or (op_add_str.or op_cat)) fun σ b h x y x' y' Q S r1 r2 q => by
  unfold bAdd at q
  split at q
  · cases r1; cases r2; exact .inl ⟨_, _, rfl, rfl, q.here S (.int _)⟩
  · cases r1; cases r2
    split at q
    · rename_i hz; exact .inr (.inl ⟨_, _, rfl, rfl, hz, q.here S (.str _)⟩)
    · exact q.elim
  · rename_i i j h
    cases r1; cases r2
    split at q
    · rename_i xs ys e1 e2
      split at q
      · rename_i hz
        obtain ⟨vs, a1, a2, a3⟩ := S.mut e1
        obtain ⟨us, c1, c2, c3⟩ := S.mut e2
        exact .inr (.inr ⟨_, _, vs, us, rfl, rfl, a1, c1, by rw [← a2.length, ← c2.length]; exact hz, fun p hp => Post.lst S (a2.append c2) q hp⟩)
      · exact q.elim
    · exact q.elim
  · exact q.elim
def bSub : W → W → MH → R W := iOp (fun _ _ => true) fun i j => .int (i - j)
theorem os_sub : OpS X Wx (binaryOp .Sub) bSub := os_int0 op_sub fun i j b => .int _
/-- *: ints; a text or a list by an int -/
def bMul : W → W → MH → R W
  | .int i, .int j, h => if i.natAbs.log2 + j.natAbs.log2 < 1000000 then .ok (.int (i * j)) h else .stuck
  | .str x, .int k, h => if -(2 ^ 63) ≤ k ∧ k < 2 ^ 63 ∧ x.length * k.toNat ≤ sizeLine then .ok (.str ⟨(List.replicate k.toNat x.cps.toList).flatten.toArray⟩) h else .stuck
  | .ref i, .int k, h => match mutAt h i with
    | some xs => if -(2 ^ 63) ≤ k ∧ k < 2 ^ 63 ∧ xs.length * k.toNat ≤ sizeLine then .ok (.ref h.length) (h ++ [.lst (List.replicate k.toNat xs).flatten]) else .stuck
    | none => .stuck
  | _, _, _ => .stuck
theorem fold_app (k : Nat) (a : Array Nat) : ∀ acc : Array Nat, ((List.replicate k a).foldl (· ++ ·) acc).toList = acc.toList ++ (List.replicate k a.toList).flatten := by
  induction k with
  | zero => intro acc; simp
  | succ k ih =>
    intro acc
    rw [List.replicate_succ, List.foldl_cons, ih, List.replicate_succ, List.flatten_cons]
    simp
theorem op_rep_str : OpR X (binaryOp .Mult) (fun x y H Q => ∃ z k, x = .str z ∧ y = .int k ∧ (-(2 ^ 63) ≤ k ∧ k < 2 ^ 63 ∧ z.length * k.toNat ≤ sizeLine) ∧ Q (.str ⟨(List.replicate k.toNat z.cps.toList).flatten.toArray⟩) H) := by
  intro pins s σ H x y v u Q I rx ry h
  obtain ⟨z, k, rfl, rfl, ⟨h1, h2, h3⟩, q⟩ := h
  obtain ⟨t, rfl⟩ := rx
  obtain ⟨t', rfl⟩ := ry
  have line : (sizeLine : Nat) = 16777216 := sizeLine_eq
  have fin : ∀ (x : Str) (tk : Tok) (s' : Shared), Inv X pins σ H s' → x = ⟨(List.replicate k.toNat z.cps.toList).flatten.toArray⟩ → EP X pins σ Q (.str x tk) s' := fun x tk s' I' e => ⟨.str x, H, I', ⟨tk, rfl⟩, by rw [e]; exact q⟩
  refine PySem.P.mul_str ?_ ?_ ?_ ?_
  · rw [Bool.or_eq_false_iff]
    exact ⟨decide_eq_false (by omega), decide_eq_false (by omega)⟩
  · intro g1 g2 g3
    have k1 : 1 ≤ k := by omega
    have := Int.ediv_lt_of_lt_mul (show (0 : Int) < k by omega) (show (2 ^ 63 - 1 : Int) < ((2 ^ 63 - 1) / k + 1) * k by
      have := Int.emod_add_mul_ediv (2 ^ 63 - 1) k
      have := Int.emod_lt_of_pos (2 ^ 63 - 1) (show (0 : Int) < k by omega)
      rw [Int.add_mul, Int.one_mul, Int.mul_comm]
      omega)
    have z1 : (z.length : Int) * k ≤ 16777216 := by
      have : ((z.length * k.toNat : Nat) : Int) ≤ 16777216 := by omega
      rw [Int.natCast_mul] at this
      rw [Int.toNat_of_nonneg (by omega)] at this
      exact this
    have z2 : (z.length : Int) ≤ (2 ^ 63 - 1) / k := Int.le_ediv_of_mul_le (by omega) (by omega)
    omega
  · intro g1 g2
    exact decide_eq_false (show ¬ _ > _ by omega)
  · by_cases g1 : k < 1
    · rw [if_pos g1]
      refine ⟨by decide, fin _ _ _ (I.tok _) ?_⟩
      rw [show k.toNat = 0 by omega]
      rfl
    · rw [if_neg g1]
      by_cases g2 : (k == 1 || z.length == 0) = true
      · rw [if_pos g2]
        refine fin _ _ _ I ?_
        rcases Bool.or_eq_true_iff.mp g2 with g | g
        · have : k = 1 := by simpa using g
          subst this
          obtain ⟨⟨l⟩⟩ := z
          simp
        · have g0 : z.length = 0 := by simpa using g
          obtain ⟨⟨l⟩⟩ := z
          have : l = [] := List.eq_nil_of_length_eq_zero (by simpa [Str.length] using g0)
          subst this
          simp
      · rw [if_neg g2]
        refine ⟨?_, fin _ _ _ (I.tok _) ?_⟩
        · have e := congrArg List.length (fold_app k.toNat z.cps #[])
          simp only [Array.toList_empty, List.nil_append, List.length_flatten, List.map_replicate, List.sum_replicate_nat, Array.length_toList] at e
          show Array.size _ ≤ _
          rw [e, Nat.mul_comm]
          exact h3
        · have e := fold_app k.toNat z.cps #[]
          simp only [Array.toList_empty, List.nil_append] at e
          rw [← e]
theorem os_mul : OpS X Wx (binaryOp .Mult) bMul := .of (op_mulW.or (op_rep_str.or op_rep)) fun σ b h x y x' y' Q S r1 r2 q => by
  unfold bMul at q
  split at q
  · cases r1; cases r2
    split at q
    · rename_i hz; exact .inl ⟨_, _, rfl, rfl, hz, q.here S (.int _)⟩
    · exact q.elim
  · cases r1; cases r2
    split at q
    · rename_i hz; exact .inr (.inl ⟨_, _, rfl, rfl, hz, q.here S (.str _)⟩)
    · exact q.elim
  · cases r1; cases r2
    split at q
    · rename_i xs e1
      split at q
      · rename_i hz
        obtain ⟨vs, a1, a2, a3⟩ := S.mut e1
        have rr : ∀ n : Nat, Rls X.K b (List.replicate n xs).flatten (List.replicate n vs).flatten := fun n => by
          induction n with
          | zero => exact .nil
          | succ n ih => rw [List.replicate_succ, List.replicate_succ, List.flatten_cons, List.flatten_cons]; exact a2.append ih
        exact .inr (.inr ⟨_, _, vs, rfl, rfl, a1, hz.1, hz.2.1, by rw [← a2.length]; exact hz.2.2, fun p hp => Post.lst S (rr _) q hp⟩)
      · exact q.elim
    · exact q.elim
  · exact q.elim
/-- //, %: by a positive int -/
def bDiv : W → W → MH → R W := iOp (fun _ j => decide (0 < j ∧ j.natAbs.log2 < 9000)) fun i j => .int (i / j)
theorem os_div : OpS X Wx (binaryOp .FloorDiv) bDiv := os_int op_fdivW (fun i j h => of_decide_eq_true (p := 0 < j ∧ j.natAbs.log2 < 9000) h) fun i j b => .int _
def bMod : W → W → MH → R W := iOp (fun _ j => decide (0 < j)) fun i j => .int (i % j)
theorem os_mod : OpS X Wx (binaryOp .Mod) bMod := os_int op_mod (fun i j h => of_decide_eq_true (p := 0 < j) h) fun i j b => .int _
def bPow : W → W → MH → R W := iOp (fun i j => decide (0 ≤ j ∧ j ≤ 1000000 ∧ i.natAbs < 2 ^ 64)) fun i j => .int (i ^ j.toNat)
theorem os_pow : OpS X Wx (binaryOp .Pow) bPow := os_int op_pow (fun i j h => of_decide_eq_true (p := 0 ≤ j ∧ j ≤ 1000000 ∧ i.natAbs < 2 ^ 64) h) fun i j b => .int _
/-! ### order -/
def bLt : W → W → MH → R W
  | .int i, .int j, h => .ok (.bl (decide (i < j))) h
  | .str x, .str y, h => .ok (.bl (decide (x.cps.toList < y.cps.toList))) h
  | _, _, _ => .stuck
def bLe : W → W → MH → R W
  | .int i, .int j, h => .ok (.bl (decide (i ≤ j))) h
  | .str x, .str y, h => .ok (.bl (!decide (y.cps.toList < x.cps.toList))) h
  | _, _, _ => .stuck
def bGt : W → W → MH → R W
  | .int i, .int j, h => .ok (.bl (decide (j < i))) h
  | _, _, _ => .stuck
def bGe : W → W → MH → R W
  | .int i, .int j, h => .ok (.bl (decide (j ≤ i))) h
  | _, _, _ => .stuck
theorem os_lt : OpS X Wx (compareOp .Lt) bLt := .of (op_lt.or op_lt_str) fun σ b h x y x' y' Q S r1 r2 q => by
  unfold bLt at q
  split at q
  · cases r1; cases r2; exact .inl ⟨_, _, rfl, rfl, q.here S (.bl _)⟩
  · cases r1; cases r2; exact .inr ⟨_, _, rfl, rfl, q.here S (.bl _)⟩
  · exact q.elim
theorem os_le : OpS X Wx (compareOp .LtE) bLe := .of (op_le.or op_le_str) fun σ b h x y x' y' Q S r1 r2 q => by
  unfold bLe at q
  split at q
  · cases r1; cases r2; exact .inl ⟨_, _, rfl, rfl, q.here S (.bl _)⟩
  · cases r1; cases r2; exact .inr ⟨_, _, rfl, rfl, q.here S (.bl _)⟩
  · exact q.elim
theorem os_gt : OpS X Wx (compareOp .Gt) bGt := .of op_gt fun σ b h x y x' y' Q S r1 r2 q => by
  unfold bGt at q
  split at q
  · cases r1; cases r2; exact ⟨_, _, rfl, rfl, q.here S (.bl _)⟩
  · exact q.elim
theorem os_ge : OpS X Wx (compareOp .GtE) bGe := .of op_ge fun σ b h x y x' y' Q S r1 r2 q => by
  unfold bGe at q
  split at q
  · cases r1; cases r2; exact ⟨_, _, rfl, rfl, q.here S (.bl _)⟩
  · exact q.elim
end
end PM
/-! Sm9: data, == and repr; is, in; subscripts, slices; built-ins. -/
namespace PM
open PySem PySem.Spec L2
open PyProof.Rows hiding St
/-! ### data -/
def mapO {α β : Type} (f : α → Option β) : List α → Option (List β)
  | [] => some []
  | x :: xs => (f x).bind fun y => (mapO f xs).bind fun ys => some (y :: ys)
/-- data without dicts, of nesting below the first argument -/
def dataW (h : MH) : Nat → W → Option PyData
  | _, .non => some .none
  | _, .bl k => some (.bool k)
  | _, .int i => some (.int i)
  | _, .str x => some (.str x)
  | 0, _ => none
  | n + 1, .tup xs => (mapO (dataW h n) xs).map .tuple
  | n + 1, .ref i => (lstAt h i).bind fun xs => (mapO (dataW h n) xs).map .list
  | _, _ => none
theorem dpAll_of {K : PySem.W.Frag} {b : Bs} {f : W → Option PyData} (ih : ∀ w v d, f w = some d → Rl K b w v → Dp K b.H v d) : ∀ {ws : List W} {vs : List V} {ds : List PyData}, mapO f ws = some ds → Rls K b ws vs → DpAll K b.H vs ds
  | [], _, _, e, .nil => by cases e; exact .nil
  | w :: ws, _, ds, e, .cons r rr => by
    unfold mapO at e
    cases e1 : f w with
    | none => rw [e1] at e; cases e
    | some d =>
      rw [e1] at e
      cases e2 : mapO f ws with
      | none => rw [e2] at e; cases e
      | some es => rw [e2] at e; cases e; exact .cons (ih _ _ _ e1 r) (dpAll_of ih e2 rr)
theorem dp_of {K : PySem.W.Frag} {b : Bs} {h : MH} (S : Sim K b h) : ∀ (n : Nat) (w : W) (v : V) (d : PyData), dataW h n w = some d → Rl K b w v → Dp K b.H v d := by
  intro n
  induction n with
  | zero =>
    intro w v d e r
    cases r <;> first | (simp [dataW] at e; done) | (simp only [dataW, Option.some.injEq] at e; subst e; constructor)
  | succ n ih =>
    intro w v d e r
    cases r with
    | tup a ws vs hs rr =>
      simp only [dataW, Option.map_eq_some_iff] at e
      obtain ⟨ds, e, rfl⟩ := e
      exact .tup hs (dpAll_of ih e rr)
    | ref i hi =>
      simp only [dataW] at e
      cases el : lstAt h i with
      | none => rw [el] at e; cases e
      | some xs =>
        rw [el] at e
        simp only [Option.bind_some, Option.map_eq_some_iff] at e
        obtain ⟨ds, e, rfl⟩ := e
        obtain ⟨vs, h1, rr, _⟩ := S.list el
        exact .lst h1 (dpAll_of ih e rr)
    | _ => first | (simp [dataW] at e; done) | (simp only [dataW, Option.some.injEq] at e; subst e; constructor)
/-- flat things of kinds that the layer's == takes -/
def eqFlat : W → W → Option Bool
  | .non, .non => some true
  | .bl a, .bl b => some (a == b)
  | .int a, .int b => some (a == b)
  | .str a, .str b => some (a == b)
  | .non, .int _ => some false
  | .int _, .non => some false
  | .non, .bl _ => some false
  | .bl _, .non => some false
  | .non, .str _ => some false
  | .str _, .non => some false
  | .int _, .str _ => some false
  | .str _, .int _ => some false
  | .bl _, .str _ => some false
  | .str _, .bl _ => some false
  | _, _ => none
theorem eqFlat_ok {K : PySem.W.Frag} {b : Bs} {x y : W} {x' y' : V} {r : Bool} (r1 : Rl K b x x') (r2 : Rl K b y y') (e : eqFlat x y = some r) : scal x' y' = true ∧ decide (x' = y') = r := by
  cases r1 <;> cases r2 <;> first | cases e | skip
  all_goals refine ⟨rfl, ?_⟩
  all_goals first | rfl | (simp; done) | exact dec_int | exact dec_bl | exact dec_str
/-- ==, != of flat things, of data -/
def bEq : W → W → MH → R W := fun x y h => match eqFlat x y with
  | some r => .ok (.bl r) h
  | none => match dataW h 20 x, dataW h 20 y with
    | some d, some e => if SeqAt.shaped d = true ∧ SeqAt.shaped e = true then .ok (.bl (PyData.eqv d e)) h else .stuck
    | _, _ => .stuck
def bNe : W → W → MH → R W := fun x y h => match eqFlat x y with
  | some r => .ok (.bl (!r)) h
  | none => match dataW h 20 x, dataW h 20 y with
    | some d, some e => if SeqAt.shaped d = true ∧ SeqAt.shaped e = true then .ok (.bl (!PyData.eqv d e)) h else .stuck
    | _, _ => .stuck
section
variable {X : Cx} {Wx : WX} {k : Nat}
theorem os_eq (hr : Room k X.A) : OpS X Wx (compareOp .Eq) bEq := .of (op_eq.or (op_eqD hr.units)) fun σ b h x y x' y' Q S r1 r2 q => by
  unfold bEq at q
  split at q
  · rename_i r e
    obtain ⟨e1, e2⟩ := eqFlat_ok r1 r2 e
    exact .inl ⟨e1, by rw [e2]; exact q.here S (.bl _)⟩
  · split at q
    · rename_i d e h1 h2
      split at q
      · rename_i hz; exact .inr ⟨d, e, dp_of S _ _ _ _ h1 r1, dp_of S _ _ _ _ h2 r2, hz.1, hz.2, q.here S (.bl _)⟩
      · exact q.elim
    · exact q.elim
theorem os_ne (hr : Room k X.A) : OpS X Wx (compareOp .NotEq) bNe := .of (op_ne.or (op_neD hr.units)) fun σ b h x y x' y' Q S r1 r2 q => by
  unfold bNe at q
  split at q
  · rename_i r e
    obtain ⟨e1, e2⟩ := eqFlat_ok r1 r2 e
    exact .inl ⟨e1, by rw [e2]; exact q.here S (.bl _)⟩
  · split at q
    · rename_i d e h1 h2
      split at q
      · rename_i hz; exact .inr ⟨d, e, dp_of S _ _ _ _ h1 r1, dp_of S _ _ _ _ h2 r2, hz.1, hz.2, q.here S (.bl _)⟩
      · exact q.elim
    · exact q.elim
/-! ### is -/
def isV : W → W → Option Bool
  | .non, .non => some true
  | .bl a, .bl b => some (decide (a = b))
  | .non, _ => none
  | _, .non => some false
  | _, _ => none
def bIs : W → W → MH → R W := fun x y h => match isV x y with
  | some k => .ok (.bl k) h
  | none => .stuck
def bNot : W → W → MH → R W := fun x y h => match isV x y with
  | some k => .ok (.bl (!k)) h
  | none => .stuck
theorem os_is : OpS X Wx (compareOp .Is) bIs := .of (op_isN.or op_isBl) fun σ b h x y x' y' Q S r1 r2 q => by
  unfold bIs at q
  cases r1 <;> cases r2 <;> first | exact q.elim | (first | exact .inl ⟨rfl, q.here S (.bl _)⟩ | exact .inr ⟨_, _, rfl, rfl, q.here S (.bl _)⟩)
theorem os_isnot : OpS X Wx (compareOp .IsNot) bNot := .of (op_notN.or op_notBl) fun σ b h x y x' y' Q S r1 r2 q => by
  unfold bNot at q
  cases r1 <;> cases r2 <;> first | exact q.elim | (first | exact .inl ⟨rfl, q.here S (.bl _)⟩ | exact .inr ⟨_, _, rfl, rfl, q.here S (.bl _)⟩)
/-! ### in: a sign in a text; a flat thing in a list or a tuple -/
def flatW : W → Bool
  | .non => true
  | .bl _ => true
  | .int _ => true
  | .str _ => true
  | _ => false
def eqW : W → W → Bool
  | .non, .non => true
  | .bl a, .bl b => a == b
  | .bl a, .int b => (if a then 1 else 0) == b
  | .int a, .bl b => a == (if b then 1 else 0)
  | .int a, .int b => a == b
  | .str a, .str b => a == b
  | _, _ => false
def inW (x : W) (xs : List W) : Bool := xs.any fun y => eqW y x
theorem flat_of {K : PySem.W.Frag} {b : Bs} {w : W} {v : V} (r : Rl K b w v) (h : flatW w = true) : flatV v = true := by
  cases r <;> first | rfl | cases h
theorem eq_of {K : PySem.W.Frag} {b : Bs} {w x : W} {v y : V} (r : Rl K b w v) (s : Rl K b x y) (h : flatW w = true) (g : flatW x = true) : eqV v y = eqW w x := by
  cases r <;> first | exact absurd h Bool.false_ne_true | (cases s <;> first | exact absurd g Bool.false_ne_true | rfl)
theorem flats_of {K : PySem.W.Frag} {b : Bs} : ∀ {ws : List W} {vs : List V}, Rls K b ws vs → ws.all flatW = true → vs.all flatV = true
  | _, _, .nil, _ => rfl
  | _, _, .cons r rr, h => by
    simp only [List.all_cons, Bool.and_eq_true] at h ⊢
    exact ⟨flat_of r h.1, flats_of rr h.2⟩
theorem in_of {K : PySem.W.Frag} {b : Bs} {x : W} {y : V} (s : Rl K b x y) (g : flatW x = true) : ∀ {ws : List W} {vs : List V}, Rls K b ws vs → ws.all flatW = true → inV y vs = inW x ws
  | _, _, .nil, _ => rfl
  | _, _, .cons r rr, h => by
    simp only [List.all_cons, Bool.and_eq_true] at h
    have ih := in_of s g rr h.2
    unfold inV inW at *
    rw [List.any_cons, List.any_cons, ih, eq_of r s h.1 g]
def seqAt (y : W) (h : MH) : Option (List W) := match y with
  | .ref i => lstAt h i
  | .tup xs => some xs
  | _ => none
theorem Sim.seq {K : PySem.W.Frag} {b : Bs} {h : MH} {y : W} {v : V} {xs : List W} (S : Sim K b h) (r : Rl K b y v) (e : seqAt y h = some xs) : ∃ p vs, v = .ref p ∧ (SqL K b.H p vs ∨ SqT K b.H p vs) ∧ Rls K b xs vs := by
  cases r with
  | ref i hi =>
    obtain ⟨vs, h1, rr, _⟩ := S.list (show lstAt h i = some xs from e)
    exact ⟨_, vs, rfl, .inl h1, rr⟩
  | tup a ws vs hs rr =>
    cases (show some ws = some xs from e)
    exact ⟨a, vs, rfl, .inr hs, rr⟩
  | _ => cases e
def inG (neg : Bool) (x y : W) (h : MH) : R W := match x, y with
  | .str c, .str z => if c.length = 1 then .ok (.bl (if neg then !decide (c.cps.toList.headD 0 ∈ z.cps.toList) else decide (c.cps.toList.headD 0 ∈ z.cps.toList))) h else .stuck
  | x, y => match seqAt y h with
    | some xs => if flatW x = true ∧ xs.all flatW = true then .ok (.bl (if neg then !inW x xs else inW x xs)) h else .stuck
    | none => .stuck
theorem sign_of {c : Str} (h : c.length = 1) : c = ⟨#[c.cps.toList.headD 0]⟩ := by
  obtain ⟨⟨l⟩⟩ := c
  match l, (show l.length = 1 from h) with
  | [a], _ => rfl
theorem in_read {K : PySem.W.Frag} {We : Value → Option Addr → Hp → Prop} {neg : Bool} {b : Bs} {h : MH} {x y : W} {x' y' : V} {Q : VK} (S : Sim K b h) (r1 : Rl K b x x') (r2 : Rl K b y y') (q : Post K (Rl K) We b Q (inG neg x y h)) :
    (∃ (c : Nat) (z : Str), x' = .str ⟨#[c]⟩ ∧ y' = .str z ∧ Q (.bl (if neg then !decide (c ∈ z.cps.toList) else decide (c ∈ z.cps.toList))) b.H) ∨ rIn K neg x' y' b.H Q := by
  unfold inG at q
  split at q
  · rename_i c z
    cases r1; cases r2
    split at q
    · rename_i hz
      exact .inl ⟨_, z, by rw [← sign_of hz], rfl, q.here S (.bl _)⟩
    · exact q.elim
  · split at q
    · rename_i xs e
      split at q
      · rename_i hz
        obtain ⟨p, vs, rfl, hs, rr⟩ := S.seq r2 e
        refine .inr ⟨p, vs, rfl, hs, flat_of r1 hz.1, flats_of rr hz.2, ?_⟩
        rw [in_of r1 hz.1 rr hz.2]
        exact q.here S (.bl _)
      · exact q.elim
    · exact q.elim
theorem os_in : OpS X Wx (compareOp .In) (inG false) := .of (op_in_sign.or op_in_seq) fun σ b h x y x' y' Q S r1 r2 q => in_read S r1 r2 q
theorem os_notin : OpS X Wx (compareOp .NotIn) (inG true) := .of (op_notIn_sign.or op_notIn_seq) fun σ b h x y x' y' Q S r1 r2 q => in_read S r1 r2 q
/-! ### subscripts -/
theorem atI_rel {K : PySem.W.Frag} {b : Bs} {ws : List W} {vs : List V} {i : Int} {w : W} (r : Rls K b ws vs) (e : atI ws i = some w) : ∃ v, atI vs i = some v ∧ Rl K b w v := by
  unfold atI at *
  rw [← r.length]
  cases e2 : ixN ws.length i with
  | none => rw [e2] at e; cases e
  | some j => rw [e2] at e; exact r.get e
def bIx : W → W → MH → R W := fun x y h => match x, y with
  | .str z, .int i => if z.length ≤ sizeLine then match atI z.cps.toList i with
    | some c => .ok (.str ⟨#[c]⟩) h
    | none => .stuck else .stuck
  | x, .int i => match (seqAt x h).bind fun xs => atI xs i with
    | some w => .ok w h
    | none => .stuck
  | _, _ => .stuck
variable {a c e : Expr} {ma mc me : EM} {pos : Pos}
theorem se_ix (ha : SE X Wx a ma) (hc : SE X Wx c mc) (hs : PlainIx c := by exact fun _ _ => rfl) : SE X Wx (.Subscript a c pos) (e2 bIx ma mc) := by
  refine ⟨pe_imp (pe_ix (ix_list.or (ix_tup.or ix_str)) ha.pe hc.pe hs) fun σ H Q ⟨b, h, σm, eH, S, l, q⟩ => ?_⟩
  subst eH
  refine ⟨b, h, σm, rfl, S, l, (Post.bind (rel := Rl X.K) q).mono fun x' H1 ⟨c1, x, h1, eH, E1, S1, r1, q1⟩ => ?_⟩
  subst eH
  refine ⟨c1, h1, σm, rfl, S1, l.ext E1, (Post.bind (rel := Rl X.K) q1).mono fun y' H2 ⟨c2, y, h2, eH, E2, S2, r2, q2⟩ => ?_⟩
  subst eH
  have r1 := r1.ext E2
  unfold bIx at q2
  split at q2
  · cases r1; cases r2
    split at q2
    · rename_i hz
      split at q2
      · rename_i c' hc'; exact .inr (.inr ⟨_, _, c', rfl, rfl, hz, hc', q2.here S2 (.str _)⟩)
      · exact q2.elim
    · exact q2.elim
  · cases r2
    split at q2
    · rename_i w hw
      cases es : seqAt x h2 with
      | none => rw [es] at hw; cases hw
      | some xs =>
        rw [es] at hw
        obtain ⟨p, vs, rfl, hs, rr⟩ := S2.seq r1 es
        obtain ⟨v, hv, rv⟩ := atI_rel rr hw
        rcases hs with hs | hs
        · exact .inl ⟨p, vs, _, v, rfl, rfl, hs, hv, q2.here S2 rv⟩
        · exact .inr (.inl ⟨p, vs, _, v, rfl, rfl, hs, hv, q2.here S2 rv⟩)
    · exact q2.elim
  · exact q2.elim
/-! ### slices -/
abbrev OM := MS → MH → R (Option Int)
def oNo : OM := fun _ h => .ok none h
def oSome (m : EM) : OM := fun σ h => (m σ h).bind fun w h1 => match w with
  | .int i => .ok (some i) h1
  | _ => .stuck
abbrev rEqO : Bs → Option Int → Option Int → Prop := fun _ a b => a = b
def tSimO (K : PySem.W.Frag) (Wx : WX) (m : OM) : TO := fun σ H Q => ∃ (b : Bs) (h : MH) (σm : MS), b.H = H ∧ Sim K b h ∧ SlM K b σm σ ∧ Post K rEqO (fun c d H' => Wx c d σ H') b Q (m σm h)
structure SO (X : Cx) (Wx : WX) (e : Option Expr) (m : OM) : Prop where
  po : PO X e (tSimO X.K Wx m)
theorem po_imp {e : Option Expr} {t u : TO} (h : PO X e t) (m : ∀ σ H Q, u σ H Q → t σ H Q) : PO X e u := ⟨fun pins s σ H Q I q => h.run pins s σ H Q I (m _ _ _ q)⟩
theorem so_none : SO X Wx none oNo := ⟨po_imp po_none fun σ H Q ⟨b, h, σm, e, S, l, q⟩ => by subst e; exact q.here S rfl⟩
theorem so_some (ha : SE X Wx a ma) : SO X Wx (some a) (oSome ma) := ⟨po_imp (po_some ha.pe) fun σ H Q ⟨b, h, σm, e, S, l, q⟩ => by
  refine ⟨b, h, σm, e, S, l, (Post.bind (rel := Rl X.K) q).mono fun x' H1 ⟨c1, x, h1, eH, E1, S1, r1, q1⟩ => ?_⟩
  subst eH
  cases r1 <;> first | exact q1.elim | exact ⟨_, rfl, q1.here S1 rfl⟩⟩
theorem SlR.or' {r r' : V → Option Int → Option Int → Hp → VK → Prop} (a : L2.SlR X r) (c : L2.SlR X r') : L2.SlR X (fun x lo hi H Q => r x lo hi H Q ∨ r' x lo hi H Q) := by
  intro pins s σ H x v vl vu lo hi sl Q I rx hs pl pu q
  rcases q with q | q
  · exact a pins s σ H x v vl vu lo hi sl Q I rx hs pl pu q
  · exact c pins s σ H x v vl vu lo hi sl Q I rx hs pl pu q
def cutW (xs : List W) (lo hi : Option Int) : List W := (xs.drop (HT.sIx xs.length 0 lo)).take (HT.sIx xs.length xs.length hi - HT.sIx xs.length 0 lo)
def bSl (x : W) (lo hi : Option Int) (h : MH) : R W := match x with
  | .str z => if z.length ≤ sizeLine then .ok (.str (cutS z lo hi)) h else .stuck
  | .ref i => match lstAt h i with
    | some xs => .ok (.ref h.length) (h ++ [.lst (cutW xs lo hi)])
    | none => .stuck
  | .tup ws => if HT.sIx ws.length 0 lo = 0 ∧ HT.sIx ws.length ws.length hi = ws.length then .stuck else .ok (.tup (cutW ws lo hi)) h
  | _ => .stuck
def eSl (m : EM) (lo hi : OM) : EM := fun σ h => (m σ h).bind fun x h1 => (lo σ h1).bind fun l h2 => (hi σ h2).bind fun u h3 => bSl x l u h3
theorem cut_rel {K : PySem.W.Frag} {b : Bs} {ws : List W} {vs : List V} {lo hi : Option Int} (r : Rls K b ws vs) : Rls K b (cutW ws lo hi) (cutV vs lo hi) := by
  unfold cutW cutV
  rw [r.length]
  exact (r.drop _).take _
theorem se_sl {lo hi : Option Expr} {ml mh : OM} {p2 : Pos} (ha : SE X Wx a ma) (hl : SO X Wx lo ml) (hh : SO X Wx hi mh) : SE X Wx (.Subscript a (.Slice lo hi none p2) pos) (eSl ma ml mh) := by
  refine ⟨pe_imp (pe_slice (SlR.or' sl_str (SlR.or' sl_list sl_tup)) ha.pe hl.po hh.po) fun σ H Q ⟨b, h, σm, eH, S, l, q⟩ => ?_⟩
  subst eH
  refine ⟨b, h, σm, rfl, S, l, (Post.bind (rel := Rl X.K) q).mono fun x' H1 ⟨c1, x, h1, eH, E1, S1, r1, q1⟩ => ?_⟩
  subst eH
  refine ⟨c1, h1, σm, rfl, S1, l.ext E1, (Post.bind (rel := rEqO) q1).mono fun y' H2 ⟨c2, y, h2, eH, E2, S2, r2, q2⟩ => ?_⟩
  subst eH; subst r2
  refine ⟨c2, h2, σm, rfl, S2, (l.ext E1).ext E2, (Post.bind (rel := rEqO) q2).mono fun z' H3 ⟨c3, z, h3, eH, E3, S3, r3, q3⟩ => ?_⟩
  subst eH; subst r3
  have r1 := (r1.ext E2).ext E3
  unfold bSl at q3
  cases r1 with
  | str x =>
    dsimp only at q3
    split at q3
    · rename_i hz; exact .inl ⟨x, rfl, hz, q3.here S3 (.str _)⟩
    · exact q3.elim
  | ref i hi =>
    dsimp only at q3
    split at q3
    · rename_i xs hx
      obtain ⟨vs, a1, rr, _⟩ := S3.list hx
      exact .inr (.inl ⟨_, vs, rfl, a1, fun p hp => Post.lst S3 (cut_rel rr) q3 hp⟩)
    · exact q3.elim
  | tup p ws vs hs rr =>
    dsimp only at q3
    split at q3
    · exact q3.elim
    · rename_i hz
      refine .inr (.inr ⟨p, vs, rfl, hs, by rw [← rr.length]; exact hz, fun p hp => Post.tup S3 (cut_rel rr) q3 hp⟩)
  | _ => exact q3.elim
/-! ### xs[i] = v -/
def sSetIx (mo mi mv : EM) : SM := fun σ h => (mv σ h).st σ fun v h1 => (mo σ h1).st σ fun o h2 => (mi σ h2).st σ fun i h3 => match o, i with
  | .ref j, .int k => match mutAt h3 j with
    | some xs => match ixN xs.length k with
      | some n => .nx σ (h3.set j (.lst (xs.set n v)))
      | none => .stuck
    | none => .stuck
  | _, _ => .stuck
theorem ss_setIx (ho : SE X Wx a ma) (hi : SE X Wx c mc) (he : SE X Wx e me) (hs : swapsWithSole [.Subscript a c pos] e pos'.line X.env = pure false := by rfl) (hw : swappedStores [.Subscript a c pos] e X.env = pure none := by rfl)
    (h1 : (assignEach [.Subscript a c pos] X.env).map (·.2) = [assign (.Subscript a c pos) X.env] := by rfl)
    (hx : ∀ v, assign (.Subscript a c pos) X.env v = (do
      let ov ← holding [v] (eval a X.env)
      let iv ← holding [v, ov] (eval c X.env)
      standAt pos
      holding [v, ov, iv] (setItem ov iv v)
      release [v, ov, iv] []) := by intro _; rfl) : SS X Wx (.Assign [.Subscript a c pos] e pos') (sSetIx ma mc me) := by
  refine ⟨ps_imp (ps_asg he.pe (pg_sub ho.pe hi.pe set_list hx) hs hw h1) fun D σ H ⟨b, h, σm, eH, S, l, q⟩ => ?_⟩
  refine ⟨b, h, σm, eH, S, l, (PostS.st (rel := Rl X.K) l q).mono fun v H1 ⟨c1, w, g1, e1, x1, s1, r1, p1⟩ => ?_⟩
  refine ⟨c1, g1, σm, e1, s1, l.ext x1, (PostS.st (rel := Rl X.K) (l.ext x1) p1).mono fun o H2 ⟨c2, wo, g2, e2, x2, s2, r2, p2⟩ => ?_⟩
  refine ⟨c2, g2, σm, e2, s2, (l.ext x1).ext x2, (PostS.st (rel := Rl X.K) ((l.ext x1).ext x2) p2).mono fun i H3 ⟨c3, wi, g3, e3, x3, s3, r3, p3⟩ => ?_⟩
  subst e3
  have r2 := r2.ext x3
  split at p3
  · cases r2; cases r3
    split at p3
    · rename_i xs hx
      split at p3
      · rename_i n hn
        obtain ⟨vs, a1, rr, _⟩ := s3.mut hx
        obtain ⟨x4, s4⟩ := s3.putL hx (rr.set n ((r1.ext x2).ext x3))
        exact ⟨_, vs, _, n, rfl, rfl, a1, by rw [← rr.length]; exact hn, p3 _ σ x4 s4 (((l.ext x1).ext x2).ext x3 |>.ext x4)⟩
      · exact p3.elim
    · exact p3.elim
  · exact p3.elim
end
end PM
/-! Sm10: built-in functions and methods. -/
namespace PM
open PySem PySem.Spec L2
open PyProof.Rows hiding St
section
variable {X : Cx} {Wx : WX} {k : Nat}
/-- a constant of the module; a built-in type as a value -/
theorem se_glob {x : Str} {w : W} {v : V} {u : Value} {pos : Pos} (hg : Gl X x) (hm : X.mg x = some u) (r : RelV v u) (hr : ∀ b, Rl X.K b w v) (hd : (x == ("__debug__" : Str)) = false := by decide) : SE X Wx (.Name x pos) (eC w) := se_c hr (pe_glob hg hm r hd)
theorem se_type {x : Str} {n : String} {pos : Pos} (hg : Gl X x) (hm : X.mg x = none) (hv : bootBuiltins x = some (.type n)) (hn : x ≠ "__name__" := by decide) (hd : (x == ("__debug__" : Str)) = false := by decide) : SE X Wx (.Name x pos) (eC (.ty n)) :=
  se_c (fun _ => .ty n) (pe_bltn hg hm hv rfl hn hd)
/-! ### len -/
def lenW (w : W) (h : MH) : Option Nat := match w with
  | .str x => if x.length ≤ sizeLine then some x.length else none
  | .tup xs => some xs.length
  | .ref i => match lstAt h i with
    | some xs => some xs.length
    | none => match h[i]? with
      | some (.dct kvs) => some kvs.length
      | _ => none
  | _ => none
def bLen (ws : List W) (h : MH) : R W := match ws with
  | [w] => match lenW w h with
    | some n => .ok (.int n) h
    | none => .stuck
  | _ => .stuck
theorem rls1 {K : PySem.W.Frag} {b : Bs} {w : W} {vs : List V} (r : Rls K b [w] vs) : ∃ v, vs = [v] ∧ Rl K b w v := by
  cases r with
  | cons r rr => cases rr; exact ⟨_, rfl, r⟩
theorem rls2 {K : PySem.W.Frag} {b : Bs} {w x : W} {vs : List V} (r : Rls K b [w, x] vs) : ∃ v y, vs = [v, y] ∧ Rl K b w v ∧ Rl K b x y := by
  cases r with
  | cons r rr =>
    obtain ⟨y, rfl, r2⟩ := rls1 rr
    exact ⟨_, y, rfl, r, r2⟩
theorem callR_or {f : Value} {r r' : List V → Hp → VK → Prop} (a : CallR X f r) (c : CallR X f r') : CallR X f (fun xs H Q => r xs H Q ∨ r' xs H Q) := by
  intro pins s σ H xs us Q I rr q
  rcases q with q | q
  · exact a pins s σ H xs us Q I rr q
  · exact c pins s σ H xs us Q I rr q
theorem cs_len : CallS X Wx (.builtin "len") bLen := .of (callR_or call_len call_lenD) fun σ b h ws vs Q S r q => by
  unfold bLen at q
  split at q
  · rename_i w
    obtain ⟨v, rfl, r1⟩ := rls1 r
    split at q
    · rename_i n hn
      unfold lenW at hn
      cases r1 with
      | str x =>
        dsimp only at hn
        split at hn
        · rename_i hz; cases hn; exact .inl ⟨_, _, rfl, ⟨hz, rfl⟩, q.here S (.int _)⟩
        · cases hn
      | tup a ws us hs rr => cases hn; exact .inl ⟨_, _, rfl, .inr ⟨us, hs, rr.length⟩, q.here S (.int _)⟩
      | ref i hi =>
        dsimp only at hn
        split at hn
        · rename_i xs hx
          cases hn
          obtain ⟨us, h1, rr, _⟩ := S.list hx
          exact .inl ⟨_, _, rfl, .inl ⟨us, h1, rr.length⟩, q.here S (.int _)⟩
        · split at hn
          · rename_i kvs hk
            cases hn
            obtain ⟨ps, h1, rr, _⟩ := S.dict hk
            refine .inr ⟨_, ps, rfl, h1, ?_⟩
            have := congrArg List.length rr.1
            simp only [List.length_map] at this
            rw [this]
            exact q.here S (.int _)
          · cases hn
      | _ => cases hn
    · exact q.elim
  · exact q.elim
/-! ### isinstance, of built-in types -/
def tyB (w : W) (h : MH) : Option String := match w with
  | .non => some "NoneType"
  | .bl _ => some "bool"
  | .int _ => some "int"
  | .str _ => some "str"
  | .tup _ => some "tuple"
  | .ref i => match lstAt h i with
    | some _ => some "list"
    | none => match h[i]? with
      | some (.dct _) => some "dict"
      | some (.lck _) => some "dict"
      | _ => none
  | _ => none
theorem tyX_of {K : PySem.W.Frag} {b : Bs} {h : MH} {w : W} {v : V} {t : String} (S : Sim K b h) (r : Rl K b w v) (e : tyB w h = some t) : TyX K b.H v (.type t) := by
  unfold tyB at e
  cases r with
  | non => cases e; exact .base .non
  | bl _ => cases e; exact .base (.bl _)
  | int _ => cases e; exact .base (.int _)
  | str _ => cases e; exact .base (.str _)
  | ty _ => cases e
  | glo _ => cases e
  | tup a ws vs hs rr =>
    cases e
    rcases hs with (hs | ⟨o, hs⟩) | ⟨o, its, n, hs, c, _⟩
    · exact .base (.tup hs)
    · exact .fTuple hs
    · exact .kTuple hs c
  | ref i hi =>
    dsimp only at e
    split at e
    · rename_i xs hx
      cases e
      obtain ⟨vs, hs, _⟩ := S.list hx
      rcases hs with (hs | ⟨o, hs⟩) | ⟨o, its, n, hs, c, _⟩
      · exact .base (.lst hs)
      · exact .base (.frz hs)
      · exact .kList hs c
    · split at e
      · rename_i kvs hk
        cases e
        obtain ⟨ps, h1, _⟩ := S.dict hk
        exact .base (.dK h1)
      · rename_i kvs hk
        cases e
        obtain ⟨o, ps, h1, _⟩ := S.ob _ _ hk
        exact .fDict h1
      · cases e
/-- the answers for the types that a program has -/
def isB (a b : String) : Option Bool :=
  if a = b then some true
  else if a ∈ ["NoneType", "bool", "int", "str", "tuple", "list", "dict"] ∧ b ∈ ["NoneType", "bool", "int", "str", "tuple", "list", "dict"] then some (decide (a = "bool" ∧ b = "int"))
  else none
theorem isB_ok {K : PySem.W.Frag} {a b : String} {r : Bool} (h : isB a b = some r) : PySem.W.kitOne K (.type a) (.type b) = some r := by
  apply kit_ty
  unfold isB at h
  split at h
  · rename_i e
    cases h; subst e
    unfold kitB
    rw [if_pos (beq_self_eq_true _)]
  · split at h
    · rename_i hn hm
      cases h
      obtain ⟨h1, h2⟩ := hm
      simp only [List.mem_cons, List.not_mem_nil, or_false] at h1 h2
      rcases h1 with rfl | rfl | rfl | rfl | rfl | rfl | rfl <;> rcases h2 with rfl | rfl | rfl | rfl | rfl | rfl | rfl <;> first | exact absurd rfl hn | decide +kernel
    · cases h
def tysOf : List W → Option (List String)
  | [] => some []
  | .ty n :: r => (tysOf r).map (n :: ·)
  | _ => none
theorem tysOf_ok {K : PySem.W.Frag} {b : Bs} : ∀ {ws : List W} {vs : List V} {ns : List String}, Rls K b ws vs → tysOf ws = some ns → Paired ClsV vs (ns.map Value.type)
  | _, _, ns, .nil, e => by cases e; exact .nil
  | w :: ws, _, ns, .cons r1 rr, e => by
    cases r1 with
    | ty n =>
      simp only [tysOf, Option.map_eq_some_iff] at e
      obtain ⟨ms, e, rfl⟩ := e
      exact .cons (.ty n) (tysOf_ok rr e)
    | _ => cases e
def isAny (t : String) : List String → Option Bool
  | [] => some false
  | n :: r => match isB t n with
    | some true => some true
    | some false => isAny t r
    | none => none
theorem isAny_ok {K : PySem.W.Frag} {t : String} : ∀ {ns : List String} {r : Bool}, isAny t ns = some r → PySem.W.kitAny K (.type t) (ns.map Value.type) = some r
  | [], r, e => by cases e; rfl
  | n :: ns, r, e => by
    unfold isAny at e
    split at e
    · rename_i e1; cases e; exact kitAny_cons (isB_ok e1) (fun z => nomatch z) (fun _ => rfl)
    · rename_i e1; exact kitAny_cons (isB_ok e1) (fun _ => isAny_ok e) (fun z => nomatch z)
    · cases e
def bIsi (ws : List W) (h : MH) : R W := match ws with
  | [w, .ty n] => match (tyB w h).bind fun t => isB t n with
    | some r => .ok (.bl r) h
    | none => .stuck
  | [w, .tup cs] => match (tyB w h).bind fun t => (tysOf cs).bind fun ns => isAny t ns with
    | some r => .ok (.bl r) h
    | none => .stuck
  | _ => .stuck
theorem sqT_K {K : PySem.W.Frag} {H : Hp} {a : Addr} {vs : List V} (h : SqT K H a vs) : H a = some (.tup vs) ∨ (∃ o, H a = some (.frz o (.tup vs))) ∨ ∃ o its n, K.lookup a = some o ∧ o.cls = Value.type "tuple" ∧ o.data = .seq its n ∧ Vals vs its.toList := by
  rcases h with (h | h) | ⟨o, its, n, h1, h2, h3, _, h4⟩
  · exact .inl h
  · exact .inr (.inl h)
  · exact .inr (.inr ⟨o, its, n, h1, h2, h3, h4⟩)
theorem call_isiF : CallR X (.builtin "isinstance") (fun xs H Q => ∃ (x : V) (tp : Addr) (o : Obj) (cs : List V) (t : Value) (us : List Value) (b : Bool), xs = [x, .ref tp] ∧ H tp = some (.frz o (.tup cs)) ∧ Paired ClsV cs us ∧ TyX X.K H x t ∧ PySem.W.kitAny X.K t us = some b ∧ Q (.bl b) H) := by
  intro pins s σ H xs us Q I r h
  obtain ⟨x, tp, ob, cs, t, ws, b, rfl, hT, k, ty, e, q⟩ := h
  obtain ⟨u1, u2, rfl, r1, r2⟩ := vals2 r
  cases (show u2 = Value.ref tp from r2)
  obtain ⟨P, Z, p, hx⟩ := kit_of I r1 ty
  obtain ⟨_, _, its, rv, o, h1, h2, n, h3⟩ := (show ObjOk X.prog X.w H s.heap tp (.frz ob (.tup cs)) from I.hok tp _ hT)
  have e3 := ClsV.all k rv
  subst e3
  obtain ⟨oc, od, dt, sl⟩ := o
  simp only at h2 h3
  subst h2 h3
  exact PySem.W.kia_tup Z I.kIn p h1 e hx fun tk => ⟨.bl b, H, I.tok tk, rfl, q⟩
theorem cs_isi : CallS X Wx (.builtin "isinstance") bIsi := .of (callR_or call_isi (callR_or call_isiT (callR_or call_isiF call_isiK))) fun σ b h ws vs Q S r q => by
  unfold bIsi at q
  split at q
  · rename_i w n
    obtain ⟨v, y, rfl, r1, r2⟩ := rls2 r
    cases r2
    split at q
    · rename_i k hk
      obtain ⟨t, h1, h2⟩ := Option.bind_eq_some_iff.mp hk
      exact .inl ⟨v, _, .type t, .type n, k, rfl, .ty n, tyX_of S r1 h1, isB_ok h2, q.here S (.bl _)⟩
    · exact q.elim
  · rename_i w cs
    obtain ⟨v, y, rfl, r1, r2⟩ := rls2 r
    cases r2 with
    | tup a _ us hs rr =>
      split at q
      · rename_i k hk
        obtain ⟨t, h1, h2⟩ := Option.bind_eq_some_iff.mp hk
        obtain ⟨ns, h2, h3⟩ := Option.bind_eq_some_iff.mp h2
        have p := tysOf_ok rr h2
        have e3 := isAny_ok (K := X.K) h3
        rcases sqT_K hs with hs | ⟨o, hs⟩ | ⟨o, its, n, l1, l2, l3, l4⟩
        · exact .inr (.inl ⟨v, a, us, .type t, _, k, rfl, hs, p, tyX_of S r1 h1, e3, q.here S (.bl _)⟩)
        · exact .inr (.inr (.inl ⟨v, a, o, us, .type t, _, k, rfl, hs, p, tyX_of S r1 h1, e3, q.here S (.bl _)⟩))
        · have e4 := ClsV.all p l4
          obtain ⟨oc, od, dt, sl⟩ := o
          simp only at l2 l3
          subst l2 l3
          refine .inr (.inr (.inr ⟨v, a, od, ns.map Value.type, n, sl, .type t, k, rfl, ?_, tyX_of S r1 h1, e3, q.here S (.bl _)⟩))
          rw [l1, ← e4]
      · exact q.elim
  · exact q.elim
/-! ### all, any of a list of bools -/
def blsOf : List W → Option (List Bool)
  | [] => some []
  | .bl k :: r => (blsOf r).map (k :: ·)
  | _ => none
theorem blsOf_ok {K : PySem.W.Frag} {b : Bs} : ∀ {ws : List W} {vs : List V} {ks : List Bool}, Rls K b ws vs → blsOf ws = some ks → vs = ks.map V.bl
  | _, _, ns, .nil, e => by cases e; rfl
  | w :: ws, _, ns, .cons r1 rr, e => by
    cases r1 with
    | bl k =>
      simp only [blsOf, Option.map_eq_some_iff] at e
      obtain ⟨ms, e, rfl⟩ := e
      rw [blsOf_ok rr e]; rfl
    | _ => cases e
def bAll (f : List Bool → Bool) (ws : List W) (h : MH) : R W := match ws with
  | [.ref i] => match (lstAt h i).bind blsOf with
    | some ks => .ok (.bl (f ks)) h
    | none => .stuck
  | _ => .stuck
theorem bAll_read {K : PySem.W.Frag} {We : Value → Option Addr → Hp → Prop} {f : List Bool → Bool} {b : Bs} {h : MH} {ws : List W} {vs : List V} {Q : VK} (S : Sim K b h) (r : Rls K b ws vs) (q : Post K (Rl K) We b Q (bAll f ws h)) : ∃ (a : Addr) (bs : List Bool), vs = [V.ref a] ∧ SqL K b.H a (bs.map V.bl) ∧ Q (.bl (f bs)) b.H := by
  unfold bAll at q
  split at q
  · rename_i i
    obtain ⟨v, rfl, r1⟩ := rls1 r
    cases r1
    split at q
    · rename_i ks hk
      obtain ⟨xs, h1, h2⟩ := Option.bind_eq_some_iff.mp hk
      obtain ⟨us, hs, rr, _⟩ := S.list h1
      rw [blsOf_ok rr h2] at hs
      exact ⟨_, ks, rfl, hs, q.here S (.bl _)⟩
    · exact q.elim
  · exact q.elim
theorem cs_all (hc : X.calm = true) : CallS X Wx (.builtin "all") (bAll fun ks => ks.all id) := .of (cr_all hc) fun σ b h ws vs Q S r q => bAll_read S r q
theorem cs_any (hc : X.calm = true) : CallS X Wx (.builtin "any") (bAll fun ks => ks.any id) := .of (cr_any hc) fun σ b h ws vs Q S r q => bAll_read S r q
/-! ### repr of data without dicts; str of an int, of a text -/
def bRepr (ws : List W) (h : MH) : R W := match ws with
  | [w] => match dataW h 20 w with
    | some d => if d.showable = true ∧ d.hasDict = false ∧ d.depth ≤ 60 ∧ d.shown.length ≤ sizeLine then .ok (.str d.shown) h else .stuck
    | none => .stuck
  | _ => .stuck
theorem cs_repr (hr : Room k X.A) (hg : X.A.guards = some []) : CallS X Wx (.builtin "repr") bRepr := by
  refine ⟨fun pins s σ b h ws vs us Q I S r rv q => ?_⟩
  unfold bRepr at q
  split at q
  case h_2 => exact q.elim
  rename_i w
  split at q
  case h_2 => exact q.elim
  rename_i d hd
  split at q
  case isFalse => exact q.elim
  rename_i hz
  obtain ⟨z1, z2, z3, z4⟩ := hz
  obtain ⟨v, rfl, r1⟩ := rls1 r
  obtain ⟨u, rfl, ru⟩ := vals1 rv
  obtain ⟨as, rd⟩ := Dp.reads I d v u (dp_of S _ _ _ _ hd r1) ru
  have fin : ∀ h' tk t, (∀ b o, s.heap.get? b = some o → h'.get? b = some o) → EP X pins σ Q (.str d.shown tk) { s with heap := h', toks := t } := fun h' tk t kp => ⟨.str d.shown, b.H, I.kept kp, ⟨tk, rfl⟩, q.here S (.str _)⟩
  have hu := hr.units
  cases rd with
  | none => exact PySem.P.repr_of_none (fin s.heap _ _ fun _ _ e => e)
  | bool k => exact PySem.P.repr_of_bool (fin s.heap _ _ fun _ _ e => e)
  | int i t => exact PySem.P.repr_of_int (of_decide_eq_true (show decide (i.natAbs.log2 < 1920) = true from by simpa only [PyData.showable] using z1)) (fin s.heap _ _ fun _ _ e => e)
  | str x t => exact PySem.P.repr_of_str (by simpa only [PyData.shown] using (fin s.heap s.toks (s.toks + 1) fun _ _ e => e)) (by simpa only [PyData.shown] using z4)
  | list h1 h2 h3 h4 => exact repr_of_reads' (.list h1 h2 h3 h4) z1 (fun z => by rw [z2] at z; cases z) hg (by omega) (fun _ _ e => e) (fun h' tk t kp => fin h' tk t kp) z4
  | tuple h1 h2 h3 h4 => exact repr_of_reads' (.tuple h1 h2 h3 h4) z1 (fun z => by rw [z2] at z; cases z) hg (by omega) (fun _ _ e => e) (fun h' tk t kp => fin h' tk t kp) z4
  | dict h1 h2 h3 h4 h5 => simp only [PyData.hasDict] at z2; cases z2
def bStr (ws : List W) (h : MH) : R W := match ws with
  | [.int i] => if i.natAbs.log2 < 1920 then .ok (.str (toString i)) h else .stuck
  | [.str x] => .ok (.str x) h
  | _ => .stuck
theorem cs_str : CallS X Wx (.type "str") bStr := .of (callR_or call_str_int SkE.call_str_str) fun σ b h ws vs Q S r q => by
  unfold bStr at q
  split at q
  · obtain ⟨v, rfl, r1⟩ := rls1 r
    cases r1
    split at q
    · rename_i hz; exact .inl ⟨_, rfl, hz, q.here S (.str _)⟩
    · exact q.elim
  · obtain ⟨v, rfl, r1⟩ := rls1 r
    cases r1
    exact .inr ⟨_, rfl, q.here S (.str _)⟩
  · exact q.elim
/-! ### max, min of two ints -/
def bMax2 (ws : List W) (h : MH) : R W := match ws with
  | [.int i, .int j] => .ok (.int (if j > i then j else i)) h
  | _ => .stuck
def bMin2 (ws : List W) (h : MH) : R W := match ws with
  | [.int i, .int j] => .ok (.int (if j < i then j else i)) h
  | _ => .stuck
theorem cs_max2 (hc : X.calm = true) : CallS X Wx (.builtin "max") bMax2 := .of (call_max2 hc) fun σ b h ws vs Q S r q => by
  unfold bMax2 at q
  split at q
  · obtain ⟨v, y, rfl, r1, r2⟩ := rls2 r
    cases r1; cases r2
    exact ⟨_, _, rfl, q.here S (.int _)⟩
  · exact q.elim
theorem cs_min2 (hc : X.calm = true) : CallS X Wx (.builtin "min") bMin2 := .of (call_min2 hc) fun σ b h ws vs Q S r q => by
  unfold bMin2 at q
  split at q
  · obtain ⟨v, y, rfl, r1, r2⟩ := rls2 r
    cases r1; cases r2
    exact ⟨_, _, rfl, q.here S (.int _)⟩
  · exact q.elim
/-! ### methods of texts -/
variable {o e : Expr} {mo me : EM} {apos pos : Pos}
def strsOf : List W → Option (List Str)
  | [] => some []
  | .str k :: r => (strsOf r).map (k :: ·)
  | _ => none
theorem strsOf_ok {K : PySem.W.Frag} {b : Bs} : ∀ {ws : List W} {vs : List V} {ks : List Str}, Rls K b ws vs → strsOf ws = some ks → vs = ks.map V.str
  | _, _, ns, .nil, e => by cases e; rfl
  | w :: ws, _, ns, .cons r1 rr, e => by
    cases r1 with
    | str k =>
      simp only [strsOf, Option.map_eq_some_iff] at e
      obtain ⟨ms, e, rfl⟩ := e
      rw [strsOf_ok rr e]; rfl
    | _ => cases e
def bJoin : W → W → MH → R W := fun x y h => match x, (seqAt y h).bind strsOf with
  | .str a, some ys => if (ys.map (·.length)).sum + ys.length * a.length ≤ 16777216 then .ok (.str (Txt.join a ys)) h else .stuck
  | _, _ => .stuck
theorem se_join (ho : SE X Wx o mo) (he : SE X Wx e me) (hs : starEach [e] X.env = [(false, eval e X.env)] := by rfl) (hbase : attributeBase o "join" X.env (eval o X.env) = eval o X.env := by rfl) (hline : (apos.endLine == pos.line) = true := by rfl) :
    SE X Wx (.Call (.Attribute o "join" apos) [e] [] pos) (e2 (fun x y h => match x with
      | .str _ => bJoin x y h
      | _ => .stuck) (fun σ h => (mo σ h).bind fun x g => match x with
      | .str _ => .ok x g
      | _ => .stuck) me) := by
  refine ⟨pe_imp (pe_join ho.pe he.pe hs hbase hline) fun σ H Q ⟨b, h, σm, eH, S, l, q⟩ => ?_⟩
  unfold e2 at q
  rw [bind_assoc'] at q
  refine ⟨b, h, σm, eH, S, l, (Post.bind (rel := Rl X.K) q).mono fun x' H1 ⟨c1, x, h1, eH, E1, S1, r1, q1⟩ => ?_⟩
  subst eH
  cases r1 with
  | str a =>
    refine ⟨⟨a, rfl⟩, c1, h1, σm, rfl, S1, l.ext E1, (Post.bind (rel := Rl X.K) (show Post X.K (Rl X.K) (fun c d H' => Wx c d σ H') c1 Q ((me σm h1).bind _) from q1)).mono fun y' H2 ⟨c2, y, h2, eH, E2, S2, r2, q2⟩ => ?_⟩
    subst eH
    dsimp only at q2
    unfold bJoin at q2
    split at q2
    · rename_i a' ys e1 e2
      cases e1
      obtain ⟨xs, h3, h4⟩ := Option.bind_eq_some_iff.mp e2
      obtain ⟨p, us, rfl, hs, rr⟩ := S2.seq r2 h3
      rw [strsOf_ok rr h4] at hs
      split at q2
      · rename_i hz; exact ⟨a, p, ys, rfl, rfl, hs, hz, q2.here S2 (.str _)⟩
      · exact q2.elim
    · exact q2.elim
  | _ => exact q1.elim
end
end PM
/-! Sm11: displays of dicts; calls by keywords alone. -/
namespace PM
open PySem PySem.Spec L2
open PyProof.Rows hiding St
section
variable {κ α : Type} [DecidableEq κ]
def valM (kvs : List (κ × α)) (k : κ) : Option α := (kvs.find? fun kv => decide (kv.1 = k)).map (·.2)
def putM (kvs : List (κ × α)) (k : κ) (v : α) : List (κ × α) :=
  if (kvs.any fun kv => decide (kv.1 = k)) = true then kvs.map (fun kv => if kv.1 = k then (kv.1, v) else kv) else kvs ++ [(k, v)]
def dropM (kvs : List (κ × α)) (k : κ) : List (κ × α) := kvs.filter fun kv => decide (kv.1 ≠ k)
def mergeM (kvs more : List (κ × α)) : List (κ × α) := more.foldl (fun acc kv => putM acc kv.1 kv.2) kvs
variable {K : PySem.W.Frag} {b : Bs} {kvs more : List (κ × W)} {ps qs : List (κ × V)} {k : κ} {w : W} {v : V}
theorem Rlk.any (r : Rlk K b kvs ps) (k : κ) : (ps.any fun kv => decide (kv.1 = k)) = kvs.any fun kv => decide (kv.1 = k) := by
  have e := congrArg (fun l : List κ => l.any fun x => decide (x = k)) r.1
  simpa [List.any_map, Function.comp_def] using e
theorem Rlk.ind {p : List (κ × W) → List (κ × V) → Prop} (h0 : p [] []) (h1 : ∀ k w v kvs ps, Rl K b w v → Rlk K b kvs ps → p kvs ps → p ((k, w) :: kvs) ((k, v) :: ps)) : ∀ {kvs : List (κ × W)} {ps : List (κ × V)}, Rlk K b kvs ps → p kvs ps
  | [], ps, r => by rw [r.inv_nil]; exact h0
  | (k, w) :: kvs, ps, r => by
    obtain ⟨v, qs, rfl, r1, r2⟩ := r.inv
    exact h1 k w v kvs qs r1 r2 (Rlk.ind h0 h1 r2)
theorem Rlk.app (r : Rlk K b kvs ps) (s : Rlk K b more qs) : Rlk K b (kvs ++ more) (ps ++ qs) := Rlk.ind (p := fun a c => Rlk K b (a ++ more) (c ++ qs)) s (fun k w v kvs ps r1 _ ih => .cons r1 ih) r
theorem Rlk.put (r : Rlk K b kvs ps) (k : κ) (rv : Rl K b w v) : Rlk K b (putM kvs k w) (L2.putK ps k v) := by
  unfold putM L2.putK
  rw [r.any k]
  split
  · refine Rlk.ind (p := fun a c => Rlk K b (a.map fun kv => if kv.1 = k then (kv.1, w) else kv) (c.map fun kv => if kv.1 = k then (kv.1, v) else kv)) .nil (fun k' w' v' kvs ps r1 _ ih => ?_) r
    rw [List.map_cons, List.map_cons]
    dsimp only
    by_cases e : k' = k
    · rw [if_pos e, if_pos e]; exact .cons rv ih
    · rw [if_neg e, if_neg e]; exact .cons r1 ih
  · exact r.app (.cons rv .nil)
theorem Rlk.val (r : Rlk K b kvs ps) (k : κ) : match valM kvs k with
    | some w => ∃ v, valV ps k = some v ∧ Rl K b w v
    | none => valV ps k = none := by
  refine Rlk.ind (p := fun kvs ps => match valM kvs k with
    | some w => ∃ v, valV ps k = some v ∧ Rl K b w v
    | none => valV ps k = none) rfl (fun k' w' v' kvs ps r1 _ ih => ?_) r
  by_cases e : k' = k
  · have e1 : valM ((k', w') :: kvs) k = some w' := by simp [valM, e]
    rw [e1]
    exact ⟨v', valV_pos e, r1⟩
  · have e1 : valM ((k', w') :: kvs) k = valM kvs k := by simp [valM, e]
    rw [e1, valV_neg e]
    exact ih
theorem Rlk.drop (r : Rlk K b kvs ps) (k : κ) : Rlk K b (dropM kvs k) (L2.dropK ps k) := by
  unfold dropM L2.dropK
  refine Rlk.ind (p := fun a c => Rlk K b (a.filter fun kv => decide (kv.1 ≠ k)) (c.filter fun kv => decide (kv.1 ≠ k))) .nil (fun k' w' v' kvs ps r1 _ ih => ?_) r
  by_cases e : k' = k
  · rw [List.filter_cons_of_neg (by simp [e]), List.filter_cons_of_neg (by simp [e])]; exact ih
  · rw [List.filter_cons_of_pos (by simp [e]), List.filter_cons_of_pos (by simp [e])]; exact .cons r1 ih
end
theorem Rlk.merge {K : PySem.W.Frag} {b : Bs} {more : List (Key × W)} {qs : List (Key × V)} (s : Rlk K b more qs) : ∀ {kvs : List (Key × W)} {ps : List (Key × V)}, Rlk K b kvs ps → Rlk K b (mergeM kvs more) (L2.mergeK ps qs) := by
  refine Rlk.ind (p := fun more qs => ∀ {kvs : List (Key × W)} {ps : List (Key × V)}, Rlk K b kvs ps → Rlk K b (mergeM kvs more) (L2.mergeK ps qs)) (fun r => r) (fun k w v more qs r1 _ ih => fun r => ?_) s
  exact ih (r.put k r1)
/-- a key as a value -/
def keyOf : W → Option Key
  | .int i => some (.inl i)
  | .str x => some (.inr x)
  | _ => none
theorem keyOf_ok {K : PySem.W.Frag} {b : Bs} {w : W} {v : V} {k : Key} (e : keyOf w = some k) (r : Rl K b w v) : v = kV k := by
  cases r <;> first | (cases e; rfl) | cases e
def keysOf : List (W × W) → Option (List (Key × W))
  | [] => some []
  | (a, w) :: r => (keyOf a).bind fun k => (keysOf r).bind fun kvs => some ((k, w) :: kvs)
section
variable {K : PySem.W.Frag} {b : Bs} {h : MH}
theorem Sim.pushD (S : Sim K b h) {p : Addr} {kvs : List (Key × W)} {ps : List (Key × V)} (hp : b.H p = none) (r : Rlk K b kvs ps) : Ext K b (b.push p (.dK ps)) ∧ Sim K (b.push p (.dK ps)) (h ++ [.dct kvs]) ∧ Rl K (b.push p (.dK ps)) (.ref h.length) (.ref p) := by
  have x : Ext K b (b.push p (.dK ps)) := Ext.push hp
  refine ⟨x, S.push hp ⟨ps, ?_, r.ext x⟩, ?_⟩
  · rw [Bs.push_at]; exact upd_same
  · have q := Rl.ref (K := K) (b := b.push p (.dK ps)) b.n (Nat.lt_succ_self _)
    rw [Bs.push_at, S.len] at q
    exact q
theorem Sim.putD (S : Sim K b h) {i : Nat} {kvs kvs' : List (Key × W)} {ps : List (Key × V)} (e : h[i]? = some (.dct kvs)) (r : Rlk K b kvs' ps) : Ext K b (b.put i (.dK ps)) ∧ Sim K (b.put i (.dK ps)) (h.set i (.dct kvs')) := by
  have x : Ext K b (b.put i (.dK ps)) := Ext.put (S.ob _ _ e) rfl
  exact ⟨x, S.put e rfl rfl ⟨ps, upd_same, r.ext x⟩⟩
end
section
variable {X : Cx} {Wx : WX} {pos : Pos}
def eDict0 : EM := fun _ h => .ok (.ref h.length) (h ++ [.dct []])
theorem se_dict0 : SE X Wx (.Dict [] [] pos) eDict0 := ⟨pe_imp pe_dnewK fun σ H Q ⟨b, h, σm, e, S, l, q⟩ => by
  subst e
  intro p hp
  obtain ⟨x, s, r⟩ := S.pushD (kvs := []) (ps := []) hp .nil
  exact q _ _ x s r⟩
def prs : List (EM × EM) → MS → MH → R (List (W × W))
  | [], _, h => .ok [] h
  | (a, c) :: r, σ, h => (a σ h).bind fun x h1 => (c σ h1).bind fun y h2 => (prs r σ h2).bind fun l h3 => .ok ((x, y) :: l) h3
structure SPs (X : Cx) (Wx : WX) (pos : Pos) (keys : List (Option Expr)) (values : List Expr) (ms : List (EM × EM)) : Prop where
  pp : PPs X pos keys values (ms.map fun m => (tSim X.K Wx m.1, tSim X.K Wx m.2))
theorem sps_nil : SPs X Wx pos [] [] [] := ⟨pps_nil⟩
theorem sps_cons {k v : Expr} {ks : List (Option Expr)} {vs : List Expr} {mk mv : EM} {ms : List (EM × EM)} (hk : SE X Wx k mk) (hv : SE X Wx v mv) (hr : SPs X Wx pos ks vs ms) : SPs X Wx pos (some k :: ks) (v :: vs) ((mk, mv) :: ms) := ⟨pps_cons hk.pe hv.pe hr.pp⟩
def eDict (ms : List (EM × EM)) : EM := fun σ h => (prs ms σ (h ++ [.dct []])).bind fun l h1 => match keysOf l, h1[h.length]? with
  | some kvs, some (.dct []) => if kvs.length ≤ 15 then .ok (.ref h.length) (h1.set h.length (.dct (mergeM [] kvs))) else .stuck
  | _, _ => .stuck
abbrev rPr (K : PySem.W.Frag) : Bs → List (W × W) → List (V × V) → Prop := fun b l ps => Rls K b (l.map (·.1)) (ps.map (·.1)) ∧ Rls K b (l.map (·.2)) (ps.map (·.2)) ∧ l.length = ps.length
theorem prs_read {σ : L2.St} : ∀ (ms : List (EM × EM)) {b : Bs} {h : MH} {σm : MS} {Q : List (V × V) → Hp → Prop}, Sim X.K b h → SlM X.K b σm σ → Post X.K (rPr X.K) (fun c d H' => Wx c d σ H') b Q (prs ms σm h) → tPairs (ms.map fun m => (tSim X.K Wx m.1, tSim X.K Wx m.2)) σ b.H Q
  | [], b, h, σm, Q, S, l, q => q.here S ⟨.nil, .nil, rfl⟩
  | (a, c) :: r, b, h, σm, Q, S, l, q => by
    refine ⟨b, h, σm, rfl, S, l, (Post.bind (rel := Rl X.K) q).mono fun x' H1 ⟨c1, x, h1, e1, E1, S1, r1, q1⟩ => ?_⟩
    subst e1
    refine ⟨c1, h1, σm, rfl, S1, l.ext E1, (Post.bind (rel := Rl X.K) q1).mono fun y' H2 ⟨c2, y, h2, e2, E2, S2, r2, q2⟩ => ?_⟩
    subst e2
    refine prs_read r S2 ((l.ext E1).ext E2) ((Post.bind (rel := rPr X.K) q2).mono fun l' H3 ⟨c3, l3, h3, e3, E3, S3, r3, q3⟩ => ?_)
    subst e3
    obtain ⟨r31, r32, r33⟩ := r3
    exact q3.here S3 ⟨.cons ((r1.ext E2).ext E3) r31, .cons (r2.ext E3) r32, by simp [r33]⟩
theorem keys_read {K : PySem.W.Frag} {b : Bs} : ∀ {l : List (W × W)} {ps : List (V × V)} {kvs : List (Key × W)}, rPr K b l ps → keysOf l = some kvs → ∃ qs : List (Key × V), ps = qs.map (fun kv => (kV kv.1, kv.2)) ∧ Rlk K b kvs qs ∧ qs.length = kvs.length
  | [], [], kvs, _, e => by cases e; exact ⟨[], rfl, .nil, rfl⟩
  | [], _ :: _, _, ⟨_, _, z⟩, _ => nomatch z
  | _ :: _, [], _, ⟨_, _, z⟩, _ => nomatch z
  | (a, w) :: l, (x, y) :: ps, kvs, ⟨r1, r2, r3⟩, e => by
    unfold keysOf at e
    cases e1 : keyOf a with
    | none => rw [e1] at e; cases e
    | some k =>
      rw [e1] at e
      cases e2 : keysOf l with
      | none => rw [e2] at e; cases e
      | some ms =>
        rw [e2] at e
        cases e
        cases r1 with
        | cons r1 rr1 =>
          cases r2 with
          | cons r2 rr2 =>
            obtain ⟨qs, h1, h2, h3⟩ := keys_read (l := l) (ps := ps) ⟨rr1, rr2, by simpa using r3⟩ e2
            refine ⟨(k, y) :: qs, ?_, .cons r2 h2, by simp [h3]⟩
            have e4 : x = kV k := keyOf_ok e1 r1
            rw [List.map_cons, ← h1, e4]
theorem se_dict {keys : List (Option Expr)} {values : List Expr} {ms : List (EM × EM)} (h : SPs X Wx pos keys values ms) (hall : keys.all (·.isSome) = true := by rfl) (hl : keys.length = values.length := by rfl) (h0 : keys ≠ [] := by exact (fun z => nomatch z)) (h15 : keys.length ≤ 15 := by decide) :
    SE X Wx (.Dict keys values pos) (eDict ms) := by
  refine ⟨pe_imp (pe_disp h.pp hall hl h0 h15) fun σ H Q ⟨b, h, σm, e, S, l, q⟩ p hp => ?_⟩
  subst e
  obtain ⟨x, s, r⟩ := S.pushD (kvs := []) (ps := []) hp .nil
  have q := Post.ext q x
  refine prs_read ms s (l.ext x) ((Post.bind (rel := rPr X.K) q).mono fun l' H3 ⟨c3, l3, h3, e3, E3, S3, r3, q3⟩ => ?_)
  subst e3
  have hj : h.length = b.n := S.len.symm
  have at3 : c3.at_ h.length = p := by
    rw [E3.ix _ (by rw [hj]; exact Nat.lt_succ_self _), hj]
    exact Bs.push_at _ _ _
  split at q3
  · rename_i kvs e1 e2
    split at q3
    · rename_i hz
      obtain ⟨qs, h1, h2, h4⟩ := keys_read r3 e1
      obtain ⟨ps, d1, d2, d3⟩ := S3.dict e2
      rw [d2.inv_nil, at3] at d1
      refine ⟨d1, qs, h1, by rw [h4]; exact hz, ?_⟩
      obtain ⟨x4, s4⟩ := S3.putD e2 (Rlk.merge h2 .nil)
      have := q3 _ (.ref p) x4 s4 (by
        have := Rl.ref (K := X.K) (b := c3.put h.length (.dK (L2.mergeK [] qs))) h.length d3
        rw [show (c3.put h.length (.dK (L2.mergeK [] qs))).at_ h.length = p from at3] at this
        exact this)
      rw [show (c3.put h.length (.dK (L2.mergeK [] qs))).H = upd c3.H p (.dK (L2.mergeK [] qs)) from by
        show upd c3.H (c3.at_ h.length) _ = _
        rw [at3]] at this
      exact this
    · exact q3.elim
  · exact q3.elim
end
section
variable {X : Cx} {Wx : WX} {k : Nat} {f : Addr} {fd : FuncData} {ps ks : List Str} {m : FM} {x : Str} {p pos : Pos} {kws : List Keyword} {nk : AM} {g : List Value → List Value → List Value} {gV : List V → List V → List V} {gW : List W → List W → List W} {np : Nat}
/-- f(k = v, ..) -/
theorem se_callK0 (F : FnG X.prog X.w X.K X.mg X.base k f fd ps m) (hr : Room k X.A) (hgd : X.A.guards = some []) (tk : Takes X Wx) (hg : Gl X x) (hm : X.mg x = some (.ref f)) (hk : PySem.W.keepIn X.K (.ref f) = true) (hb : KbG X.K fd ps ks np g gV gW)
    (hkw : SK X Wx kws nk) (hall : (backToKw pos (keywordEach kws X.env)).all (·.1.isSome) = true := by rfl) (hks : (backToKw pos (keywordEach kws X.env)).filterMap (·.1) = ks := by rfl)
    (hdb : (x == ("__debug__" : Str)) = false := by decide)
    (hpl : ((backTo pos (starEach [] X.env)).any (·.1) || (backToKw pos (keywordEach kws X.env)).any (·.1.isNone)) = false := by rfl) :
    SE X Wx (.Call (.Name x p) [] kws pos) (eCallK np ks.length (fun ws zs => m (gW ws zs)) aNil nk) := by
  refine ⟨⟨fun pins s σ H Q I q => ?_⟩⟩
  obtain ⟨b, h, σm, rfl, S, l, q⟩ := q
  refine wpAny_Call_Name_kw (ld_glob I hg hm ?_ hdb)
  refine PySem.W.callWith_KW0 (h₀ := X.base) I.ok.mod.kin hk hall (thn (hkw.pk.run pos pins s σ _ _ I ⟨b, h, σm, rfl, S, l, Post.bind (rel := Rls X.K) (show Post X.K (Rl X.K) (fun c d H' => Wx c d σ H') b Q ((nk σm h).bind fun zs h2 => if ([] : List W).length = np ∧ zs.length = ks.length then m (gW [] zs) h2 else .stuck) from q)⟩) fun zs s2 ⟨ys, H2, I2, r2, c2, xs, h2, e2, E2, S2, l2, q2⟩ => ?_) hpl
  subst e2
  refine ⟨I2.kIn, ?_⟩
  rw [hks]
  exact run_kw F hr hgd tk hb I2 (us := []) (vs := []) (ws := []) .nil r2 S2 .nil l2 q2
end
end PM
/-! Sm12: pairs stored at once, unary minus, binding. -/
namespace PM
open PySem PySem.Spec L2
open PyProof.Rows hiding St
section
variable {X : Cx} {Wx : WX} {pos : Pos} {a c e : Expr} {ma mc me : EM} {n : AM}
def eNeg (m : EM) : EM := fun σ h => (m σ h).bind fun w h1 => match w with
  | .int i => .ok (.int (-i)) h1
  | _ => .stuck
theorem se_neg (ha : SE X Wx a ma) : SE X Wx (.UnaryOp .USub a pos) (eNeg ma) := ⟨pe_imp (pe_un un_neg ha.pe) fun σ H Q ⟨b, h, σm, e, S, l, q⟩ => by
  refine ⟨b, h, σm, e, S, l, (Post.bind (rel := Rl X.K) q).mono fun x' H1 ⟨c1, x, h1, eH, E1, S1, r1, q1⟩ => ?_⟩
  subst eH
  cases r1 <;> first | exact q1.elim | exact ⟨_, rfl, q1.here S1 (.int _)⟩⟩
/-- a, b = x, y at once -/
def sPar (i j : Nat) (n : AM) : SM := fun σ h => (n σ h).st σ fun ws h1 => match ws with
  | [v, w] => .nx ((σ.set i (some v)).set j (some w)) h1
  | _ => .stuck
theorem ss_par {i j : Nat} {x y : Str} {px py pt : Pos} {kt k2 pt2} (hc : X.calm = true) (hN : X.N.Nodup) (hi : X.N[i]? = some x) (hj : X.N[j]? = some y) (hij : i ≠ j)
    (hx : X.env.scope.names.lookup x = some .local) (hy : X.env.scope.names.lookup y = some .local) (ha : SA X Wx [a, c] n)
    (hw : swappedStores [.Tuple [.Name x px, .Name y py] kt pt] (.Tuple [a, c] k2 pt2) X.env = pure (some [x, y]))
    (hs : swapsWithSole [.Tuple [.Name x px, .Name y py] kt pt] (.Tuple [a, c] k2 pt2) pos.line X.env = pure false := by rfl) :
    SS X Wx (.Assign [.Tuple [.Name x px, .Name y py] kt pt] (.Tuple [a, c] k2 pt2) pos) (sPar i j n) := by
  refine ⟨ps_imp (ps_par hc hN hi hj hij hx hy ha.pa hw hs) fun D σ H ⟨b, h, σm, e, S, l, q⟩ => ?_⟩
  refine ⟨b, h, σm, e, S, l, (PostS.st (rel := Rls X.K) l q).mono fun vs H1 ⟨c1, ws, g, e, x, s, r, p⟩ => ?_⟩
  subst e
  split at p
  · obtain ⟨v, w, rfl, r1, r2⟩ := rls2 r
    exact ⟨v, w, rfl, p c1 _ .refl s (((l.ext x).set i r1).set j r2)⟩
  · exact p.elim
theorem rls3 {K : PySem.W.Frag} {b : Bs} {w x y : W} {vs : List V} (r : Rls K b [w, x, y] vs) : ∃ v u t, vs = [v, u, t] ∧ Rl K b w v ∧ Rl K b x u ∧ Rl K b y t := by
  cases r with
  | cons r rr =>
    obtain ⟨u, t, rfl, r2, r3⟩ := rls2 rr
    exact ⟨_, u, t, rfl, r, r2, r3⟩
def sPar3 (i j k : Nat) (n : AM) : SM := fun σ h => (n σ h).st σ fun ws h1 => match ws with
  | [u, v, w] => .nx (((σ.set i (some u)).set j (some v)).set k (some w)) h1
  | _ => .stuck
theorem ss_par3 {d : Expr} {i j l : Nat} {x y z : Str} {px py pz pt : Pos} {kt k2 pt2} (hc : X.calm = true) (hN : X.N.Nodup) (hi : X.N[i]? = some x) (hj : X.N[j]? = some y) (hl : X.N[l]? = some z) (hij : i ≠ j) (hil : i ≠ l) (hjl : j ≠ l)
    (hx : X.env.scope.names.lookup x = some .local) (hy : X.env.scope.names.lookup y = some .local) (hz : X.env.scope.names.lookup z = some .local) (ha : SA X Wx [a, c, d] n)
    (hw : swappedStores [.Tuple [.Name x px, .Name y py, .Name z pz] kt pt] (.Tuple [a, c, d] k2 pt2) X.env = pure (some [x, y, z]))
    (hs : swapsWithSole [.Tuple [.Name x px, .Name y py, .Name z pz] kt pt] (.Tuple [a, c, d] k2 pt2) pos.line X.env = pure false := by rfl) :
    SS X Wx (.Assign [.Tuple [.Name x px, .Name y py, .Name z pz] kt pt] (.Tuple [a, c, d] k2 pt2) pos) (sPar3 i j l n) := by
  refine ⟨ps_imp (ps_par3 hc hN hi hj hl hij hil hjl hx hy hz ha.pa hw hs) fun D σ H ⟨b, h, σm, e, S, l, q⟩ => ?_⟩
  refine ⟨b, h, σm, e, S, l, (PostS.st (rel := Rls X.K) l q).mono fun vs H1 ⟨c1, ws, g, e, x, s, r, p⟩ => ?_⟩
  subst e
  split at p
  · obtain ⟨u, v, w, rfl, r1, r2, r3⟩ := rls3 r
    exact ⟨u, v, w, rfl, p c1 _ .refl s ((((l.ext x).set _ r1).set _ r2).set _ r3)⟩
  · exact p.elim
end
/-! ### binding -/
/-- the values by place, out of the positional ones and the keywords' -/
def gPerm {α : Type} (p : List Nat) (us ws : List α) : List α := p.filterMap fun i => (us ++ ws)[i]?
theorem perm_vals {p : List Nat} {vs zs : List V} {us ws : List Value} (r : Vals vs us) (s : Vals zs ws) : Vals (gPerm p vs zs) (gPerm p us ws) := by
  have rs := r.append s
  unfold gPerm
  induction p with
  | nil => exact .nil
  | cons i p ih =>
    rw [List.filterMap_cons, List.filterMap_cons]
    cases e : (vs ++ zs)[i]? with
    | none => rw [rs.none_of e]; exact ih
    | some v =>
      obtain ⟨u, hu, ru⟩ := rs.get e
      rw [hu]
      exact .cons ru ih
theorem perm_rls {K : PySem.W.Frag} {b : Bs} {p : List Nat} {us ws : List W} {vs zs : List V} (r : Rls K b us vs) (s : Rls K b ws zs) : Rls K b (gPerm p us ws) (gPerm p vs zs) := by
  have rs := r.append s
  unfold gPerm
  induction p with
  | nil => exact .nil
  | cons i p ih =>
    rw [List.filterMap_cons, List.filterMap_cons]
    cases e : (us ++ ws)[i]? with
    | none =>
      have : (vs ++ zs)[i]? = none := by
        rw [List.getElem?_eq_none_iff] at e ⊢
        rw [← rs.length]; exact e
      rw [this]; exact ih
    | some v =>
      obtain ⟨u, hu, ru⟩ := rs.get e
      rw [hu]
      exact .cons ru ih
section
variable {K : PySem.W.Frag} {x qual : Str} {params : Arguments} {body : List Stmt} {scope : Scope} {kws : List (Str × V)} {f : Addr} {fd : FuncData} {ps ks : List Str}
/-- keywords, no defaults -/
theorem kbG_of (F : FunD K x qual params body scope [] kws f fd) (np : Nat) (p : List Nat)
    (h : ∀ (kV doc pm : Value) (an : Option Addr) (cdv ct : Value) (us ws : List Value), us.length = np → ws.length = ks.length → bindArgs (PySem.W.fnOf x qual params body scope .none kV doc pm an cdv ct) ⟨us, ks.zip ws⟩ = pure (ps.zip (gPerm p us ws))) :
    KbG K fd ps ks np (gPerm p) (gPerm p) (gPerm p) := by
  obtain ⟨oc, od, dV, kV, doc, pm, an, cdv, ct, osl, rfl, lk, hcd, hD, hK⟩ := F.ex
  rcases hD with ⟨_, rfl⟩ | ⟨e, _⟩
  · exact ⟨fun s us ws _ h1 h2 _ => .of_eq (h kV doc pm an cdv ct us ws h1 h2), perm_vals, perm_rls⟩
  · exact absurd rfl e
end
section
variable {X : Cx} {Wx : WX} {k : Nat} {f : Addr} {fd : FuncData} {ps : List Str} {m : FM} {x : Str} {p pos : Pos} {e : Expr} {es : List Expr} {n : AM}
/-- f(e, ..), every parameter written -/
theorem se_callN (F : FnG X.prog X.w X.K X.mg X.base k f fd ps m) (hr : Room k X.A) (hgd : X.A.guards = some []) (tk : Takes X Wx) (hg : Gl X x) (hm : X.mg x = some (.ref f)) (hk : PySem.W.keepIn X.K (.ref f) = true) (hb : Binds X.K fd ps [])
    (ha : SA X Wx (e :: es) n) (hdb : (x == ("__debug__" : Str)) = false := by decide) (he : starEach (e :: es) X.env = (false, eval e X.env) :: starEach es X.env := by rfl) (hpl : (backTo pos (starEach es X.env)).any (·.1) = false := by rfl) :
    SE X Wx (.Call (.Name x p) (e :: es) [] pos) (eCall m n) := by
  have q := se_call (p := p) F hr hgd tk hg hm hk hb (dvs := []) (dws := []) .nil (fun _ => .nil) ha hdb he hpl
  simpa using q
theorem se_callN0 (F : FnG X.prog X.w X.K X.mg X.base k f fd ps m) (hr : Room k X.A) (hgd : X.A.guards = some []) (tk : Takes X Wx) (hg : Gl X x) (hm : X.mg x = some (.ref f)) (hk : PySem.W.keepIn X.K (.ref f) = true) (hb : Binds X.K fd ps [])
    (hdb : (x == ("__debug__" : Str)) = false := by decide) : SE X Wx (.Call (.Name x p) [] [] pos) (eCall m aNil) := by
  have q := se_call0 (Wx := Wx) (p := p) (pos := pos) F hr hgd tk hg hm hk hb (dvs := []) (dws := []) .nil (fun _ => .nil) hdb
  simpa using q
end
def eJoin (mo me : EM) : EM := e2 (fun x y h => match x with
      | .str _ => bJoin x y h
      | _ => .stuck) (fun σ h => (mo σ h).bind fun x g => match x with
      | .str _ => .ok x g
      | _ => .stuck) me
theorem se_join' {X : Cx} {Wx : WX} {pos apos : Pos} {o e : Expr} {mo me : EM} (ho : SE X Wx o mo) (he : SE X Wx e me) (hs : starEach [e] X.env = [(false, eval e X.env)] := by rfl) (hbase : attributeBase o "join" X.env (eval o X.env) = eval o X.env := by rfl) (hline : (apos.endLine == pos.line) = true := by rfl) :
    SE X Wx (.Call (.Attribute o "join" apos) [e] [] pos) (eJoin mo me) := se_join ho he hs hbase hline
section
variable {X : Cx} {Wx : WX} {k : Nat} {f : Addr} {fd : FuncData} {ps ks : List Str} {m : FM} {x : Str} {p pos : Pos} {e : Expr} {es : List Expr} {kws : List Keyword} {n nk : AM} {g : List Value → List Value → List Value} {gV : List V → List V → List V} {gW : List W → List W → List W} {np kn : Nat}
theorem se_callKw0 (F : FnG X.prog X.w X.K X.mg X.base k f fd ps m) (hr : Room k X.A) (hgd : X.A.guards = some []) (tk : Takes X Wx) (hb : KbG X.K fd ps ks np g gV gW) (hn : ks.length = kn) (hg : Gl X x) (hm : X.mg x = some (.ref f)) (hk : PySem.W.keepIn X.K (.ref f) = true)
    (hkw : SK X Wx kws nk) (hall : (backToKw pos (keywordEach kws X.env)).all (·.1.isSome) = true := by rfl) (hks : (backToKw pos (keywordEach kws X.env)).filterMap (·.1) = ks := by rfl)
    (hdb : (x == ("__debug__" : Str)) = false := by decide)
    (hpl : ((backTo pos (starEach [] X.env)).any (·.1) || (backToKw pos (keywordEach kws X.env)).any (·.1.isNone)) = false := by rfl) :
    SE X Wx (.Call (.Name x p) [] kws pos) (eCallK np kn (fun ws zs => m (gW ws zs)) aNil nk) := by
  subst hn
  exact se_callK0 F hr hgd tk hg hm hk hb hkw hall hks hdb hpl
theorem se_callKw (F : FnG X.prog X.w X.K X.mg X.base k f fd ps m) (hr : Room k X.A) (hgd : X.A.guards = some []) (tk : Takes X Wx) (hb : KbG X.K fd ps ks np g gV gW) (hn : ks.length = kn) (hg : Gl X x) (hm : X.mg x = some (.ref f)) (hk : PySem.W.keepIn X.K (.ref f) = true)
    (ha : SA X Wx (e :: es) n) (hkw : SK X Wx kws nk) (hall : (backToKw pos (keywordEach kws X.env)).all (·.1.isSome) = true := by rfl) (hks : (backToKw pos (keywordEach kws X.env)).filterMap (·.1) = ks := by rfl)
    (hdb : (x == ("__debug__" : Str)) = false := by decide) (he : starEach (e :: es) X.env = (false, eval e X.env) :: starEach es X.env := by rfl)
    (hpl : ((backTo pos (starEach (e :: es) X.env)).any (·.1) || (backToKw pos (keywordEach kws X.env)).any (·.1.isNone)) = false := by rfl) :
    SE X Wx (.Call (.Name x p) (e :: es) kws pos) (eCallK np kn (fun ws zs => m (gW ws zs)) n nk) := by
  subst hn
  exact se_callK F hr hgd tk hg hm hk hb ha hkw hall hks hdb he hpl
theorem se_globS {y z : Str} {pos : Pos} (h : ∃ t, X.mg y = some (.str z t)) (hg : Gl X y) (hd : (y == ("__debug__" : Str)) = false := by decide) : SE X Wx (.Name y pos) (eC (.str z)) := by
  obtain ⟨t, h⟩ := h
  exact se_glob (v := .str z) hg h ⟨t, rfl⟩ (fun _ => .str _) hd
theorem se_globI {y : Str} {i : Int} {pos : Pos} (h : ∃ t, X.mg y = some (.int i t)) (hg : Gl X y) (hd : (y == ("__debug__" : Str)) = false := by decide) : SE X Wx (.Name y pos) (eC (.int i)) := by
  obtain ⟨t, h⟩ := h
  exact se_glob (v := .int i) hg h ⟨t, rfl⟩ (fun _ => .int _) hd
end
theorem FunD.same {K : PySem.W.Frag} {x qual : Str} {params : Arguments} {body : List Stmt} {scope : Scope} {dvs : List V} {kws : List (Str × V)} {f : Addr} {fd fd' : FuncData} (F : FunD K x qual params body scope dvs kws f fd) (F' : FunD K x qual params body scope dvs kws f fd') : fd = fd' := by
  obtain ⟨oc, od, dV, kV, doc, pm, an, cdv, ct, osl, _, lk, _⟩ := F.ex
  obtain ⟨oc', od', dV', kV', doc', pm', an', cdv', ct', osl', _, lk', _⟩ := F'.ex
  rw [lk] at lk'
  cases lk'
  rfl
theorem bt_str : bootBuiltins "str" = some (.type "str") := by decide +kernel
theorem bt_int : bootBuiltins "int" = some (.type "int") := by decide +kernel
theorem bt_bool : bootBuiltins "bool" = some (.type "bool") := by decide +kernel
theorem bt_list : bootBuiltins "list" = some (.type "list") := by decide +kernel
theorem bt_tuple : bootBuiltins "tuple" = some (.type "tuple") := by decide +kernel
theorem bt_dict : bootBuiltins "dict" = some (.type "dict") := by decide +kernel
theorem bt_set : bootBuiltins "set" = some (.type "set") := by decide +kernel
theorem bt_range : bootBuiltins "range" = some (.type "range") := by decide +kernel
theorem bt_len : bootBuiltins "len" = some (.builtin "len") := by decide +kernel
theorem bt_isinstance : bootBuiltins "isinstance" = some (.builtin "isinstance") := by decide +kernel
theorem bt_all : bootBuiltins "all" = some (.builtin "all") := by decide +kernel
theorem bt_any : bootBuiltins "any" = some (.builtin "any") := by decide +kernel
theorem bt_repr : bootBuiltins "repr" = some (.builtin "repr") := by decide +kernel
theorem bt_max : bootBuiltins "max" = some (.builtin "max") := by decide +kernel
theorem bt_min : bootBuiltins "min" = some (.builtin "min") := by decide +kernel
theorem bt_sorted : bootBuiltins "sorted" = some (.builtin "sorted") := by decide +kernel
theorem bt_sum : bootBuiltins "sum" = some (.builtin "sum") := by decide +kernel
theorem bt_enumerate : bootBuiltins "enumerate" = some (.type "enumerate") := by decide +kernel
theorem bt_zip : bootBuiltins "zip" = some (.type "zip") := by decide +kernel
end PM
/-! Sm13: reckoning with mirrors. -/
namespace PM
open PySem L2
section
variable (σ : MS) (h : MH)
@[simp] theorem ev_var (i : Nat) : eVar i σ h = match σ[i]? with
    | some (some w) => .ok w h
    | _ => .stuck := rfl
@[simp] theorem ev_c (w : W) : eC w σ h = .ok w h := rfl
@[simp] theorem ev_e1 (f : W → MH → R W) (a : EM) : e1 f a σ h = (a σ h).bind f := rfl
@[simp] theorem ev_e2 (f : W → W → MH → R W) (a c : EM) : e2 f a c σ h = (a σ h).bind fun x h1 => (c σ h1).bind fun y h2 => f x y h2 := rfl
@[simp] theorem ev_nil : aNil σ h = .ok [] h := rfl
@[simp] theorem ev_cons (m : EM) (n : AM) : aCons m n σ h = (m σ h).bind fun w h1 => (n σ h1).bind fun ws h2 => .ok (w :: ws) h2 := rfl
@[simp] theorem ev_tup (n : AM) : eTup n σ h = (n σ h).bind fun ws h1 => if ws.length ≤ sizeLine then .ok (.tup ws) h1 else .stuck := rfl
@[simp] theorem ev_lst (n : AM) : eLst n σ h = (n σ h).bind fun ws h1 => if ws.length ≤ sizeLine then .ok (.ref h1.length) (h1 ++ [.lst ws]) else .stuck := rfl
@[simp] theorem ev_call (m : List W → MH → R W) (n : AM) : eCall m n σ h = (n σ h).bind m := rfl
@[simp] theorem ev_callK (np nk : Nat) (m : List W → List W → MH → R W) (n k : AM) : eCallK np nk m n k σ h = (n σ h).bind fun ws h1 => (k σ h1).bind fun zs h2 => if ws.length = np ∧ zs.length = nk then m ws zs h2 else .stuck := rfl
@[simp] theorem ev_tru (m : EM) : tTru m σ h = (m σ h).bind truW := rfl
@[simp] theorem ev_tnot (m : TM) : tNotM m σ h = (m σ h).bind fun k h1 => .ok (!k) h1 := rfl
@[simp] theorem ev_tand (m n : TM) : tAndM m n σ h = (m σ h).bind fun k h1 => if k = true then n σ h1 else .ok false h1 := rfl
@[simp] theorem ev_tor (m n : TM) : tOrM m n σ h = (m σ h).bind fun k h1 => if k = true then .ok true h1 else n σ h1 := rfl
@[simp] theorem ev_and (m n : EM) : eAnd m n σ h = (m σ h).bind fun w h1 => (truW w h1).bind fun k h2 => if k = true then n σ h2 else .ok w h2 := rfl
@[simp] theorem ev_or (m n : EM) : eOr m n σ h = (m σ h).bind fun w h1 => (truW w h1).bind fun k h2 => if k = true then .ok w h2 else n σ h2 := rfl
@[simp] theorem ev_not (m : EM) : eNot m σ h = (m σ h).bind fun w h1 => (truW w h1).bind fun k h2 => .ok (.bl (!k)) h2 := rfl
@[simp] theorem ev_if (t : TM) (m n : EM) : eIf t m n σ h = (t σ h).bind fun k h1 => if k = true then m σ h1 else n σ h1 := rfl
@[simp] theorem ev_chain (m n : W → W → MH → R W) (x y z : EM) : eChain m n x y z σ h = (x σ h).bind fun v h1 => (y σ h1).bind fun u h2 => (m v u h2).bind fun t h3 => (truW t h3).bind fun k h4 => if k = true then (z σ h4).bind fun o h5 => n u o h5 else .ok t h4 := rfl
@[simp] theorem ev_neg (m : EM) : eNeg m σ h = (m σ h).bind fun w h1 => match w with
    | .int i => .ok (.int (-i)) h1
    | _ => .stuck := rfl
@[simp] theorem ev_sl (m : EM) (lo hi : OM) : eSl m lo hi σ h = (m σ h).bind fun x h1 => (lo σ h1).bind fun l h2 => (hi σ h2).bind fun u h3 => bSl x l u h3 := rfl
@[simp] theorem ev_ono : oNo σ h = .ok none h := rfl
@[simp] theorem ev_osome (m : EM) : oSome m σ h = (m σ h).bind fun w h1 => match w with
    | .int i => .ok (some i) h1
    | _ => .stuck := rfl
@[simp] theorem ev_dict0 : eDict0 σ h = .ok (.ref h.length) (h ++ [.dct []]) := rfl
@[simp] theorem ev_next : sNext σ h = .nx σ h := rfl
@[simp] theorem ev_seq (m n : SM) : sSeq m n σ h = (m σ h).seq n := rfl
@[simp] theorem ev_stuckS : sStuck σ h = .stuck := rfl
@[simp] theorem ev_break : sBreak σ h = .bk σ h := rfl
@[simp] theorem ev_cont : sCont σ h = .ct σ h := rfl
@[simp] theorem ev_expr (m : EM) : sExpr m σ h = (m σ h).st σ fun _ h1 => .nx σ h1 := rfl
@[simp] theorem ev_ret (m : EM) : sRet m σ h = (m σ h).st σ fun w h1 => .rt w h1 := rfl
@[simp] theorem ev_retN : sRetN σ h = .rt .non h := rfl
@[simp] theorem ev_set (i : Nat) (m : EM) : sSet i m σ h = (m σ h).st σ fun w h1 => .nx (σ.set i (some w)) h1 := rfl
@[simp] theorem ev_sif (t : TM) (m n : SM) : sIf t m n σ h = (t σ h).st σ fun k h1 => if k = true then m σ h1 else n σ h1 := rfl
@[simp] theorem ev_asg (g : GM) (m : EM) : sAsg g m σ h = (m σ h).st σ fun w h1 => match g w σ h1 with
    | some σ' => .nx σ' h1
    | none => .stuck := rfl
@[simp] theorem ev_par (i j : Nat) (n : AM) : sPar i j n σ h = (n σ h).st σ fun ws h1 => match ws with
    | [v, w] => .nx ((σ.set i (some v)).set j (some w)) h1
    | _ => .stuck := rfl
@[simp] theorem ev_par3 (i j k : Nat) (n : AM) : sPar3 i j k n σ h = (n σ h).st σ fun ws h1 => match ws with
    | [u, v, w] => .nx (((σ.set i (some u)).set j (some v)).set k (some w)) h1
    | _ => .stuck := rfl
@[simp] theorem ev_setIx (mo mi mv : EM) : sSetIx mo mi mv σ h = (mv σ h).st σ fun v h1 => (mo σ h1).st σ fun o h2 => (mi σ h2).st σ fun i h3 => match o, i with
    | .ref j, .int k => match mutAt h3 j with
      | some xs => match ixN xs.length k with
        | some n => .nx σ (h3.set j (.lst (xs.set n v)))
        | none => .stuck
      | none => .stuck
    | _, _ => .stuck := rfl
@[simp] theorem ev_for (it : MS → MH → R MI) (g : GM) (body : SM) : sFor it g body σ h = (it σ h).st σ fun mi h1 => forGo mi g body mi.fuel 0 σ h1 := rfl
@[simp] theorem ev_val (m : EM) : iVal m σ h = (m σ h).bind iterW := rfl
@[simp] theorem ev_rng (f : List W → MH → R MI) (n : AM) : iRange f n σ h = (n σ h).bind f := rfl
@[simp] theorem ev_gn (w : W) (i : Nat) : gN i w σ h = some (σ.set i (some w)) := rfl
@[simp] theorem ev_gnil : gNil [] σ h = some σ := rfl
@[simp] theorem ev_gcons (g : GM) (k : GMs) (w : W) (ws : List W) : gCons g k (w :: ws) σ h = (g w σ h).bind fun σ' => k ws σ' h := rfl
@[simp] theorem ev_gtp (n : Nat) (k : GMs) (ws : List W) : gTp n k (.tup ws) σ h = if ws.length = n then k ws σ h else none := rfl
@[simp] theorem ev_yes : tYesM σ h = .ok true h := rfl
@[simp] theorem ev_lc (it : MS → MH → R MI) (vs : List Nat) (g : GM) (t : TM) (m : EM) : eLc it vs g t m σ h = (it σ h).bind fun mi h1 => lcGo mi g t m (wipeM σ vs) h1.length mi.fuel 0 (h1 ++ [.lst []]) := rfl
end
theorem line_eq : (sizeLine : Nat) = 16777216 := sizeLine_eq
/-! ### reading heaps -/
section
variable {h h' : MH} {i j : Nat} {xs ys : List W} {o : Ob}
theorem lst_of_mut (e : mutAt h i = some xs) : lstAt h i = some xs := by
  unfold lstAt; rw [mutAt_eq e]
theorem mut_lt (e : mutAt h i = some xs) : i < h.length := (List.getElem?_eq_some_iff.mp (mutAt_eq e)).1
theorem lst_lt (e : lstAt h i = some xs) : i < h.length := by
  unfold lstAt at e
  split at e
  · rename_i q; exact (List.getElem?_eq_some_iff.mp q).1
  · rename_i q; exact (List.getElem?_eq_some_iff.mp q).1
  · cases e
@[simp] theorem mut_new (h : MH) (xs : List W) : mutAt (h ++ [.lst xs]) h.length = some xs := by
  unfold mutAt; simp
@[simp] theorem lst_new (h : MH) (xs : List W) : lstAt (h ++ [.lst xs]) h.length = some xs := lst_of_mut (mut_new h xs)
theorem mut_app (e : i < h.length) : mutAt (h ++ h') i = mutAt h i := by
  unfold mutAt; rw [List.getElem?_append_left e]
theorem lst_app (e : i < h.length) : lstAt (h ++ h') i = lstAt h i := by
  unfold lstAt; rw [List.getElem?_append_left e]
theorem mut_set (e : i < h.length) : mutAt (h.set i (.lst xs)) i = some xs := by
  unfold mutAt; rw [List.getElem?_set_self e]
theorem lst_set (e : i < h.length) : lstAt (h.set i (.lst xs)) i = some xs := lst_of_mut (mut_set e)
theorem mut_set_ne (e : i ≠ j) : mutAt (h.set i o) j = mutAt h j := by
  unfold mutAt; rw [List.getElem?_set_ne e]
theorem lst_set_ne (e : i ≠ j) : lstAt (h.set i o) j = lstAt h j := by
  unfold lstAt; rw [List.getElem?_set_ne e]
end
/-- all but the object b is as it was -/
structure Fr (b : Nat) (h h' : MH) : Prop where
  le : h.length ≤ h'.length
  at_ : ∀ i, i ≠ b → i < h.length → h'[i]? = h[i]?
theorem Fr.refl {b : Nat} {h : MH} : Fr b h h := ⟨Nat.le_refl _, fun _ _ _ => rfl⟩
theorem Fr.trans {b : Nat} {h1 h2 h3 : MH} (x : Fr b h1 h2) (y : Fr b h2 h3) : Fr b h1 h3 := ⟨Nat.le_trans x.le y.le, fun i hi hl => (y.at_ i hi (Nat.lt_of_lt_of_le hl x.le)).trans (x.at_ i hi hl)⟩
theorem Fr.app {b : Nat} {h : MH} (e : MH) : Fr b h (h ++ e) := ⟨by simp, fun i _ hl => List.getElem?_append_left hl⟩
theorem Fr.set {b : Nat} {h : MH} (o : Ob) : Fr b h (h.set b o) := ⟨by simp, fun i hi _ => List.getElem?_set_ne (fun z => hi z.symm)⟩
theorem Fr.lst {b : Nat} {h h' : MH} (x : Fr b h h') {i : Nat} {xs : List W} (hi : i ≠ b) (e : lstAt h i = some xs) : lstAt h' i = some xs := by
  rw [← e]
  unfold lstAt
  rw [x.at_ i hi (lst_lt e)]
theorem Fr.mut {b : Nat} {h h' : MH} (x : Fr b h h') {i : Nat} {xs : List W} (hi : i ≠ b) (e : mutAt h i = some xs) : mutAt h' i = some xs := by
  rw [← e]
  unfold mutAt
  rw [x.at_ i hi (mut_lt e)]
/-! ### values -/
@[simp] theorem tru_bl (k : Bool) (h : MH) : truW (.bl k) h = .ok k h := rfl
@[simp] theorem add_ii (i j : Int) (h : MH) : bAdd (.int i) (.int j) h = .ok (.int (i + j)) h := rfl
@[simp] theorem sub_ii (i j : Int) (h : MH) : bSub (.int i) (.int j) h = .ok (.int (i - j)) h := rfl
@[simp] theorem lt_ii (i j : Int) (h : MH) : bLt (.int i) (.int j) h = .ok (.bl (decide (i < j))) h := rfl
@[simp] theorem le_ii (i j : Int) (h : MH) : bLe (.int i) (.int j) h = .ok (.bl (decide (i ≤ j))) h := rfl
@[simp] theorem gt_ii (i j : Int) (h : MH) : bGt (.int i) (.int j) h = .ok (.bl (decide (j < i))) h := rfl
@[simp] theorem ge_ii (i j : Int) (h : MH) : bGe (.int i) (.int j) h = .ok (.bl (decide (j ≤ i))) h := rfl
theorem mul_ii {i j : Int} {h : MH} (hz : i.natAbs.log2 + j.natAbs.log2 < 1000000) : bMul (.int i) (.int j) h = .ok (.int (i * j)) h := if_pos hz
theorem log2_lt64 {n : Nat} (h : n < 2 ^ 64) : n.log2 < 64 := by
  by_cases e : n = 0
  · subst e; decide
  · exact (Nat.log2_lt e).mpr h
theorem mul_small {i j : Int} {h : MH} (h1 : i.natAbs < 2 ^ 64) (h2 : j.natAbs < 2 ^ 64) : bMul (.int i) (.int j) h = .ok (.int (i * j)) h := mul_ii (by
  have := log2_lt64 h1
  have := log2_lt64 h2
  omega)
theorem mod_ii {i j : Int} {h : MH} (hz : 0 < j) : bMod (.int i) (.int j) h = .ok (.int (i % j)) h := if_pos (decide_eq_true hz)
theorem div_ii {i j : Int} {h : MH} (hz : 0 < j) (h9 : j.natAbs.log2 < 9000) : bDiv (.int i) (.int j) h = .ok (.int (i / j)) h := if_pos (decide_eq_true ⟨hz, h9⟩)
theorem pow_ii {i j : Int} {h : MH} (h1 : 0 ≤ j) (h2 : j ≤ 1000000) (h3 : i.natAbs < 2 ^ 64) : bPow (.int i) (.int j) h = .ok (.int (i ^ j.toNat)) h := if_pos (decide_eq_true ⟨h1, h2, h3⟩)
theorem add_ss {x y : Str} {h : MH} (hz : x.length + y.length ≤ sizeLine) : bAdd (.str x) (.str y) h = .ok (.str (x ++ y)) h := if_pos hz
@[simp] theorem lt_ss (x y : Str) (h : MH) : bLt (.str x) (.str y) h = .ok (.bl (decide (x.cps.toList < y.cps.toList))) h := rfl
@[simp] theorem le_ss (x y : Str) (h : MH) : bLe (.str x) (.str y) h = .ok (.bl (!decide (y.cps.toList < x.cps.toList))) h := rfl
theorem ix_l {i : Nat} {k : Int} {h : MH} {xs : List W} {w : W} (e : lstAt h i = some xs) (a : atI xs k = some w) : bIx (.ref i) (.int k) h = .ok w h := by
  simp [bIx, seqAt, e, a]
theorem ix_s {x : Str} {k : Int} {h : MH} {c : Nat} (hz : x.length ≤ sizeLine) (a : atI x.cps.toList k = some c) : bIx (.str x) (.int k) h = .ok (.str ⟨#[c]⟩) h := by
  simp [bIx, hz, a]
theorem len_l {i : Nat} {h : MH} {xs : List W} (e : lstAt h i = some xs) : bLen [.ref i] h = .ok (.int xs.length) h := by
  simp [bLen, lenW, e]
theorem len_s {x : Str} {h : MH} (hz : x.length ≤ sizeLine) : bLen [.str x] h = .ok (.int x.length) h := by
  simp [bLen, lenW, hz]
@[simp] theorem max2_ii (i j : Int) (h : MH) : bMax2 [.int i, .int j] h = .ok (.int (if j > i then j else i)) h := rfl
@[simp] theorem min2_ii (i j : Int) (h : MH) : bMin2 [.int i, .int j] h = .ok (.int (if j < i then j else i)) h := rfl
/-! ### == and repr -/
@[simp] theorem data_non (h : MH) (n : Nat) : dataW h n .non = some .none := by cases n <;> rfl
@[simp] theorem data_bl (h : MH) (n : Nat) (k : Bool) : dataW h n (.bl k) = some (.bool k) := by cases n <;> rfl
@[simp] theorem data_int (h : MH) (n : Nat) (i : Int) : dataW h n (.int i) = some (.int i) := by cases n <;> rfl
@[simp] theorem data_str (h : MH) (n : Nat) (x : Str) : dataW h n (.str x) = some (.str x) := by cases n <;> rfl
theorem data_ref {h : MH} {n i : Nat} {xs : List W} {ds : List PyData} (e : lstAt h i = some xs) (d : mapO (dataW h n) xs = some ds) : dataW h (n + 1) (.ref i) = some (.list ds) := by
  simp [dataW, e, d]
theorem data_tup {h : MH} {n : Nat} {xs : List W} {ds : List PyData} (d : mapO (dataW h n) xs = some ds) : dataW h (n + 1) (.tup xs) = some (.tuple ds) := by
  simp [dataW, d]
@[simp] theorem mapO_nil {α β : Type} (f : α → Option β) : mapO f [] = some [] := rfl
@[simp] theorem mapO_cons {α β : Type} (f : α → Option β) (x : α) (xs : List α) : mapO f (x :: xs) = (f x).bind fun y => (mapO f xs).bind fun ys => some (y :: ys) := rfl
theorem eq_of_data {x y : W} {h : MH} {d e : PyData} (hf : eqFlat x y = none) (hx : dataW h 20 x = some d) (hy : dataW h 20 y = some e) (s1 : SeqAt.shaped d = true) (s2 : SeqAt.shaped e = true) : bEq x y h = .ok (.bl (PyData.eqv d e)) h := by
  simp [bEq, hf, hx, hy, s1, s2]
theorem ne_of_data {x y : W} {h : MH} {d e : PyData} (hf : eqFlat x y = none) (hx : dataW h 20 x = some d) (hy : dataW h 20 y = some e) (s1 : SeqAt.shaped d = true) (s2 : SeqAt.shaped e = true) : bNe x y h = .ok (.bl (!PyData.eqv d e)) h := by
  simp [bNe, hf, hx, hy, s1, s2]
theorem shaped_nil : SeqAt.shaped (.list []) = true := by decide
@[simp] theorem eq_ss (x y : Str) (h : MH) : bEq (.str x) (.str y) h = .ok (.bl (x == y)) h := rfl
@[simp] theorem ne_ss (x y : Str) (h : MH) : bNe (.str x) (.str y) h = .ok (.bl (!(x == y))) h := rfl
@[simp] theorem eq_bb (x y : Bool) (h : MH) : bEq (.bl x) (.bl y) h = .ok (.bl (x == y)) h := rfl
@[simp] theorem ne_bb (x y : Bool) (h : MH) : bNe (.bl x) (.bl y) h = .ok (.bl (!(x == y))) h := rfl
@[simp] theorem eq_ii (x y : Int) (h : MH) : bEq (.int x) (.int y) h = .ok (.bl (x == y)) h := rfl
@[simp] theorem ne_ii (x y : Int) (h : MH) : bNe (.int x) (.int y) h = .ok (.bl (!(x == y))) h := rfl
theorem eq_nils {i j : Nat} {h : MH} (hi : lstAt h i = some []) (hj : lstAt h j = some []) : bEq (.ref i) (.ref j) h = .ok (.bl true) h :=
  (eq_of_data rfl (data_ref hi rfl) (data_ref hj rfl) shaped_nil shaped_nil).trans (by rw [PyData.eqv, PyData.eqvAll])
@[simp] theorem repr_bl (k : Bool) (h : MH) : bRepr [.bl k] h = .ok (.str (PyData.shown (.bool k))) h := by
  have e : (PyData.shown (.bool k)).length ≤ sizeLine := by cases k <;> (simp only [PyData.shown]; decide)
  simp [bRepr, PyData.showable, PyData.hasDict, PyData.depth, e]
theorem shown_bl (k : Bool) : PyData.shown (.bool k) = if k then ("True" : Str) else ("False" : Str) := by rw [PyData.shown]
@[simp] theorem is_bb (x y : Bool) (h : MH) : bIs (.bl x) (.bl y) h = .ok (.bl (decide (x = y))) h := rfl
@[simp] theorem isnot_bb (x y : Bool) (h : MH) : bNot (.bl x) (.bl y) h = .ok (.bl (!decide (x = y))) h := rfl
/-! ### loops -/
theorem for_inv {mi : MI} {g : GM} {body : SM} (I : Nat → MS → MH → Prop) (n : Nat) (stop : ∀ σ h, I n σ h → mi.nx n h = some none)
    (step : ∀ i σ h, i < n → I i σ h → ∃ w σ1, mi.nx i h = some (some w) ∧ g w σ h = some σ1 ∧ ∃ σ2 h2, body σ1 h = .nx σ2 h2 ∧ I (i + 1) σ2 h2) :
    ∀ (f i : Nat) (σ : MS) (h : MH), i + f = n → I i σ h → ∃ σ' h', forGo mi g body f i σ h = .nx σ' h' ∧ I n σ' h'
  | 0, i, σ, h, e, hI => by
    obtain rfl : i = n := by omega
    exact ⟨σ, h, by simp [forGo, stop σ h hI], hI⟩
  | f + 1, i, σ, h, e, hI => by
    obtain ⟨w, σ1, e1, e2, σ2, h2, e3, hI2⟩ := step i σ h (by omega) hI
    obtain ⟨σ', h', e4, hI3⟩ := for_inv I n stop step f (i + 1) σ2 h2 (by omega) hI2
    exact ⟨σ', h', by simp [forGo, e1, e2, e3, e4], hI3⟩
/-- a comprehension: j the new list's number; each turn leaves it, and hands on the invariant -/
theorem lc_inv {mi : MI} {g : GM} {t : TM} {e : EM} {σ : MS} {j : Nat} (I : Nat → MH → List W → Prop) (n : Nat) (stop : ∀ h acc, I n h acc → mi.nx n h = some none)
    (step : ∀ i h acc, i < n → mutAt h j = some acc → I i h acc → ∃ w σ1, mi.nx i h = some (some w) ∧ g w σ h = some σ1 ∧
      ((∃ h1, t σ1 h = .ok false h1 ∧ mutAt h1 j = some acc ∧ I (i + 1) h1 acc) ∨
       (∃ h1 y h2, t σ1 h = .ok true h1 ∧ e σ1 h1 = .ok y h2 ∧ mutAt h2 j = some acc ∧ acc.length < sizeLine ∧ I (i + 1) (h2.set j (.lst (acc ++ [y]))) (acc ++ [y])))) :
    ∀ (f i : Nat) (h : MH) (acc : List W), i + f = n → mutAt h j = some acc → I i h acc → ∃ h' acc', lcGo mi g t e σ j f i h = .ok (.ref j) h' ∧ mutAt h' j = some acc' ∧ I n h' acc'
  | 0, i, h, acc, en, ea, hI => by
    obtain rfl : i = n := by omega
    exact ⟨h, acc, by simp [lcGo, stop h acc hI], ea, hI⟩
  | f + 1, i, h, acc, en, ea, hI => by
    obtain ⟨w, σ1, e1, e2, hs⟩ := step i h acc (by omega) ea hI
    rcases hs with ⟨h1, e3, e4, hI2⟩ | ⟨h1, y, h2, e3, e4, e5, hz, hI2⟩
    · obtain ⟨h', acc', e6, e7, hI3⟩ := lc_inv I n stop step f (i + 1) h1 acc (by omega) e4 hI2
      exact ⟨h', acc', by simp [lcGo, e1, e2, e3, e6], e7, hI3⟩
    · obtain ⟨h', acc', e6, e7, hI3⟩ := lc_inv I n stop step f (i + 1) (h2.set j (.lst (acc ++ [y]))) (acc ++ [y]) (by omega) (mut_set (mut_lt e5)) hI2
      exact ⟨h', acc', by simp [lcGo, e1, e2, e3, e4, e5, hz, e6], e7, hI3⟩
/-- parts that only look: over the things φ a, those of p -/
theorem lc_pure {α : Type} {mi : MI} {g : GM} {t : TM} {e : EM} {σ : MS} {h0 : MH} (xs : List α) (φ : α → W) (p : α → Bool) (f : α → W) (hz : xs.length ≤ sizeLine) (hw : ∀ i acc, mi.nx i (h0 ++ [.lst acc]) = some (xs[i]?.map φ))
    (hb : ∀ a ∈ xs, ∀ acc, ∃ σ1, g (φ a) σ (h0 ++ [.lst acc]) = some σ1 ∧ t σ1 (h0 ++ [.lst acc]) = .ok (p a) (h0 ++ [.lst acc]) ∧ (p a = true → e σ1 (h0 ++ [.lst acc]) = .ok (f a) (h0 ++ [.lst acc]))) :
    lcGo mi g t e σ h0.length xs.length 0 (h0 ++ [.lst []]) = .ok (.ref h0.length) (h0 ++ [.lst ((xs.filter p).map f)]) := by
  obtain ⟨h', acc', e1, e2, i1, i2⟩ := lc_inv (mi := mi) (g := g) (t := t) (e := e) (σ := σ) (j := h0.length) (fun i h acc => h = h0 ++ [.lst acc] ∧ acc = ((xs.take i).filter p).map f) xs.length
    (fun h acc ⟨e1, _⟩ => by rw [e1, hw, List.getElem?_eq_none (Nat.le_refl _)]; rfl)
    (fun i h acc hi _ ⟨e1, e2⟩ => by
      subst e1
      obtain ⟨σ1, g1, t1, el⟩ := hb xs[i] (List.getElem_mem hi) acc
      refine ⟨φ xs[i], σ1, by rw [hw, List.getElem?_eq_getElem hi]; rfl, g1, ?_⟩
      have tk : xs.take (i + 1) = xs.take i ++ [xs[i]] := by simp [hi]
      cases hp : p xs[i] with
      | false =>
        rw [hp] at t1
        exact .inl ⟨_, t1, mut_new _ _, rfl, by rw [tk, List.filter_append]; simp [hp, e2]⟩
      | true =>
        rw [hp] at t1
        refine .inr ⟨_, f xs[i], _, t1, el hp, mut_new _ _, ?_, ?_, by rw [tk, List.filter_append]; simp [hp, e2]⟩
        · rw [e2, List.length_map]
          have h1 : ((xs.take i).filter p).length ≤ (xs.take i).length := List.length_filter_le _ _
          rw [List.length_take] at h1
          omega
        · rw [List.set_append_right _ _ (Nat.le_refl _)]; simp) xs.length 0 _ [] (by omega) (mut_new _ _) ⟨rfl, rfl⟩
  rw [e1, i1, i2, List.take_length]
/-- all of them -/
theorem lc_map {α : Type} {mi : MI} {g : GM} {e : EM} {σ : MS} {h0 : MH} (xs : List α) (φ : α → W) (f : α → W) (hz : xs.length ≤ sizeLine) (hw : ∀ i acc, mi.nx i (h0 ++ [.lst acc]) = some (xs[i]?.map φ))
    (hb : ∀ a ∈ xs, ∀ acc, ∃ σ1, g (φ a) σ (h0 ++ [.lst acc]) = some σ1 ∧ e σ1 (h0 ++ [.lst acc]) = .ok (f a) (h0 ++ [.lst acc])) :
    lcGo mi g tYesM e σ h0.length xs.length 0 (h0 ++ [.lst []]) = .ok (.ref h0.length) (h0 ++ [.lst (xs.map f)]) := by
  have q := lc_pure (t := tYesM) xs φ (fun _ => true) f hz hw fun a ha acc => by
    obtain ⟨σ1, h1, h2⟩ := hb a ha acc
    exact ⟨σ1, h1, rfl, fun _ => h2⟩
  have : xs.filter (fun _ => true) = xs := List.filter_eq_self.mpr fun _ _ => rfl
  rw [this] at q
  exact q
/-- none of them -/
theorem lc_none {α : Type} {mi : MI} {g : GM} {t : TM} {e : EM} {σ : MS} {h0 : MH} (xs : List α) (φ : α → W) (hz : xs.length ≤ sizeLine) (hw : ∀ i acc, mi.nx i (h0 ++ [.lst acc]) = some (xs[i]?.map φ))
    (hb : ∀ a ∈ xs, ∀ acc, ∃ σ1, g (φ a) σ (h0 ++ [.lst acc]) = some σ1 ∧ t σ1 (h0 ++ [.lst acc]) = .ok false (h0 ++ [.lst acc])) :
    lcGo mi g t e σ h0.length xs.length 0 (h0 ++ [.lst []]) = .ok (.ref h0.length) (h0 ++ [.lst []]) := by
  have q := lc_pure (e := e) xs φ (fun _ => false) φ hz hw fun a ha acc => by
    obtain ⟨σ1, h1, h2⟩ := hb a ha acc
    exact ⟨σ1, h1, h2, fun z => nomatch z⟩
  have : xs.filter (fun _ => false) = [] := List.filter_eq_nil_iff.mpr fun _ _ z => nomatch z
  rw [this] at q
  exact q
theorem in_sign (neg : Bool) (c : Nat) (z : Str) (h : MH) : inG neg (.str ⟨#[c]⟩) (.str z) h = .ok (.bl (if neg then !decide (c ∈ z.cps.toList) else decide (c ∈ z.cps.toList))) h := by
  exact if_pos (e := R.stuck) (show (⟨#[c]⟩ : Str).length = 1 from rfl)
theorem nx_str (x : Str) (i : Nat) (h : MH) : (itS x).nx i h = some (x.cps.toList[i]?.map fun c => .str ⟨#[c]⟩) := rfl
@[simp] theorem fuel_str (x : Str) : (itS x).fuel = x.cps.toList.length := by simp [itS, Str.length]
@[simp] theorem fuel_lst (i : Nat) (xs : List W) : (itL i xs).fuel = xs.length := rfl
@[simp] theorem fuel_tup (xs : List W) : (itT xs).fuel = xs.length := rfl
@[simp] theorem fuel_rng (lo : Int) (n : Nat) : (itR lo n).fuel = n := rfl
theorem nx_lst {i k : Nat} {xs ys : List W} {h : MH} (e : lstAt h i = some ys) : (itL i xs).nx k h = some (ys[k]?.map id) := by
  simp [itL, e]
theorem nx_tup (xs : List W) (k : Nat) (h : MH) : (itT xs).nx k h = some (xs[k]?.map id) := by
  simp [itT]
theorem nx_rng (lo : Int) (n k : Nat) (h : MH) : (itR lo n).nx k h = some ((List.range n)[k]?.map fun (j : Nat) => .int (lo + j)) := by
  unfold itR
  dsimp only
  by_cases hk : k < n
  · simp [hk]
  · simp [hk]
theorem blsOf_map {α : Type} (l : List α) (p : α → Bool) : blsOf (l.map fun a => W.bl (p a)) = some (l.map p) := by
  induction l with
  | nil => rfl
  | cons a l ih => simp [blsOf, ih]
theorem all_l {i : Nat} {h : MH} {l : List W} {ks : List Bool} {f : List Bool → Bool} (e : lstAt h i = some l) (b : blsOf l = some ks) : bAll f [.ref i] h = .ok (.bl (f ks)) h := by
  simp [bAll, e, b]
theorem iter_l {i : Nat} {h : MH} {xs : List W} (e : lstAt h i = some xs) : iterW (.ref i) h = .ok (itL i xs) h := by
  simp [iterW, e]
@[simp] theorem iter_s (x : Str) (h : MH) : iterW (.str x) h = .ok (itS x) h := rfl
@[simp] theorem iter_t (xs : List W) (h : MH) : iterW (.tup xs) h = .ok (itT xs) h := rfl
end PM
/-! Sm14: texts, and == with nothing. -/
namespace PM
open PySem L2
/-- a text's signs are signs -/
def Cp (x : Str) : Prop := ∀ c ∈ x.cps.toList, c < 0x110000
theorem Cp.ok {x : Str} (p : Cp x) : PyData.strOk x = true := by
  unfold PyData.strOk
  rw [← Array.all_toList, List.all_eq_true]
  intro c hc
  exact decide_eq_true (p c hc)
theorem app_cps (x y : Str) : (x ++ y).cps.toList = x.cps.toList ++ y.cps.toList := by
  rw [show (x ++ y).cps = x.cps ++ y.cps from rfl, Array.toList_append]
theorem Cp.app {x y : Str} (p : Cp x) (q : Cp y) : Cp (x ++ y) := by
  intro c hc
  rw [app_cps, List.mem_append] at hc
  exact hc.elim (p c) (q c)
theorem Cp.one {c : Nat} (p : c < 0x110000) : Cp ⟨#[c]⟩ := by
  intro d hd
  simp at hd
  omega
theorem len_cps (x : Str) : x.length = x.cps.toList.length := by simp [Str.length]
theorem app_len (x y : Str) : (x ++ y).length = x.length + y.length := by
  rw [len_cps, len_cps, len_cps, app_cps, List.length_append]
theorem one_len (c : Nat) : (⟨#[c]⟩ : Str).length = 1 := rfl
theorem cut_cps (x : Str) (lo hi : Option Int) : (cutS x lo hi).cps.toList = (x.cps.toList.drop (HT.sIx x.length 0 lo)).take (HT.sIx x.length x.length hi - HT.sIx x.length 0 lo) := rfl
theorem Cp.cut {x : Str} (p : Cp x) (lo hi : Option Int) : Cp (cutS x lo hi) := by
  intro c hc
  rw [cut_cps] at hc
  exact p c (List.mem_of_mem_drop (List.mem_of_mem_take hc))
theorem cut_len (x : Str) (lo hi : Option Int) : (cutS x lo hi).length ≤ x.length := by
  rw [len_cps, len_cps x, cut_cps, List.length_take, List.length_drop]
  omega
/-- one text laid many times -/
def repS (x : Str) (k : Int) : Str := ⟨(List.replicate k.toNat x.cps.toList).flatten.toArray⟩
theorem Cp.rep {x : Str} (p : Cp x) (k : Int) : Cp (repS x k) := by
  intro c hc
  have : c ∈ (List.replicate k.toNat x.cps.toList).flatten := hc
  obtain ⟨l, h1, h2⟩ := List.mem_flatten.mp this
  rw [List.mem_replicate] at h1
  exact p c (h1.2 ▸ h2)
theorem rep_len (x : Str) (k : Int) : (repS x k).length = k.toNat * x.length := by
  rw [len_cps, len_cps x]
  show (List.replicate k.toNat x.cps.toList).flatten.toArray.toList.length = _
  simp
theorem mul_si {x : Str} {k : Int} {h : MH} (h1 : -(2 ^ 63) ≤ k) (h2 : k < 2 ^ 63) (h3 : x.length * k.toNat ≤ sizeLine) : bMul (.str x) (.int k) h = .ok (.str (repS x k)) h := if_pos ⟨h1, h2, h3⟩
theorem sl_s {x : Str} {lo hi : Option Int} {h : MH} (hz : x.length ≤ sizeLine) : bSl (.str x) lo hi h = .ok (.str (cutS x lo hi)) h := if_pos hz
theorem Cp.nil : Cp "" := by
  intro c hc
  rw [show ("" : Str).cps.toList = [] by decide] at hc
  cases hc
theorem Cp.join {l : List Str} (p : ∀ x ∈ l, Cp x) : Cp (Txt.join "" l) := by
  rw [TL.join_eq]
  induction l with
  | nil => exact Cp.nil
  | cons x r ih =>
    cases r with
    | nil => exact p x (.head _)
    | cons y r =>
      show Cp (x ++ "" ++ Str.join "" (y :: r))
      exact ((p x (.head _)).app Cp.nil).app (ih fun z hz => p z (.tail _ hz))
theorem join_len {l : List Str} (p : ∀ x ∈ l, x.length = 1) : (Txt.join "" l).length = l.length := by
  rw [TL.join_eq]
  induction l with
  | nil => rfl
  | cons x r ih =>
    cases r with
    | nil => exact p x (.head _)
    | cons y r =>
      show (x ++ "" ++ Str.join "" (y :: r)).length = _
      rw [app_len, app_len, ih fun z hz => p z (.tail _ hz), p x (.head _), show ("" : Str).length = 0 from rfl]
      simp only [List.length_cons]
      omega
theorem shaped_strs {l : List Str} (p : ∀ x ∈ l, Cp x) : SeqAt.shaped (.list (l.map PyData.str)) = true := by
  have h1 : PyData.canLayAll0 (l.map PyData.str) = true := by
    induction l with
    | nil => rfl
    | cons x r ih => simp [PyData.canLayAll0, PyData.canLay0, (p x (.head _)).ok, ih fun z hz => p z (.tail _ hz)]
  have h2 : PyData.depthAll (l.map PyData.str) = 0 := by
    clear h1 p
    induction l with
    | nil => rfl
    | cons x r ih => simp [PyData.depthAll, PyData.depth, ih]
  simp [SeqAt.shaped, PyData.canLay0, PyData.depth, h1, h2]
theorem data_strs {h : MH} {n : Nat} : ∀ l : List Str, mapO (dataW h n) (l.map W.str) = some (l.map PyData.str)
  | [] => rfl
  | x :: l => by simp [data_strs l]
/-- a list of texts against an empty one -/
theorem eq_strs_nil {i j : Nat} {h : MH} {l : List Str} (hi : lstAt h i = some (l.map W.str)) (hj : lstAt h j = some []) (p : ∀ x ∈ l, Cp x) : bEq (.ref i) (.ref j) h = .ok (.bl (decide (l = []))) h := by
  refine (eq_of_data rfl (data_ref hi (data_strs l)) (data_ref hj rfl) (shaped_strs p) shaped_nil).trans ?_
  cases l with
  | nil => simp [PyData.eqv, PyData.eqvAll]
  | cons x r => simp [PyData.eqv, PyData.eqvAll]
theorem join_l {i : Nat} {h : MH} {xs : List W} {ys : List Str} (e : lstAt h i = some xs) (s : strsOf xs = some ys) (hz : (ys.map (·.length)).sum ≤ 16777216) : bJoin (.str "") (.ref i) h = .ok (.str (Txt.join "" ys)) h := by
  have : (ys.map (·.length)).sum + ys.length * ("" : Str).length ≤ 16777216 := by
    rw [show ("" : Str).length = 0 from rfl]; omega
  simp [bJoin, seqAt, e, s, this]
theorem strsOf_map : ∀ l : List Str, strsOf (l.map W.str) = some l
  | [] => rfl
  | x :: l => by simp [strsOf, strsOf_map l]
theorem sum_ones : ∀ {l : List Str}, (∀ x ∈ l, x.length = 1) → (l.map (·.length)).sum = l.length
  | [], _ => rfl
  | x :: l, p => by
    have := sum_ones fun y hy => p y (.tail _ hy)
    simp [p x (.head _), this]
    omega
@[simp] theorem ev_join (m n : EM) (σ : MS) (h : MH) : eJoin m n σ h = ((m σ h).bind fun x g => match x with
      | .str _ => .ok x g
      | _ => .stuck).bind fun x h1 => (n σ h1).bind fun y h2 => match x with
      | .str _ => bJoin x y h2
      | _ => .stuck := rfl
theorem rng1_i {j : Int} {h : MH} (h1 : -(2 ^ 62) ≤ j) (h2 : j < 2 ^ 62) : rng1 [.int j] h = .ok (itR 0 j.toNat) h := if_pos ⟨h1, h2⟩
theorem rng2_i {i j : Int} {h : MH} (h1 : -(2 ^ 62) ≤ i) (h2 : i < 2 ^ 62) (h3 : -(2 ^ 62) ≤ j) (h4 : j < 2 ^ 62) : rng2 [.int i, .int j] h = .ok (itR i (j - i).toNat) h := if_pos ⟨h1, h2, h3, h4⟩
@[simp] theorem set_end (h : MH) (o p : Ob) : (h ++ [o]).set h.length p = h ++ [p] := by
  rw [List.set_append_right _ _ (Nat.le_refl _)]
  simp
theorem dict1 {m n : EM} {σ : MS} {h : MH} {x w : W} {k : Key} (hm : ∀ g, m σ g = .ok x g) (hn : ∀ g, n σ g = .ok w g) (hk : keyOf x = some k) : eDict [(m, n)] σ h = .ok (.ref h.length) (h ++ [.dct [(k, w)]]) := by
  simp [eDict, prs, hm, hn, keysOf, hk, mergeM, putM]
theorem at_end (h : MH) (o : Ob) : (h ++ [o])[h.length]? = some o := by simp
theorem isi_l {i : Nat} {h : MH} {xs : List W} {n : String} (e : lstAt h i = some xs) : bIsi [.ref i, .ty n] h = match isB "list" n with
    | some r => .ok (.bl r) h
    | none => .stuck := by
  simp [bIsi, tyB, e]
  all_goals (cases isB "list" n <;> rfl)
theorem isi_d {i : Nat} {h : MH} {kvs : List (Key × W)} {n : String} (e : h[i]? = some (.dct kvs)) : bIsi [.ref i, .ty n] h = match isB "dict" n with
    | some r => .ok (.bl r) h
    | none => .stuck := by
  simp [bIsi, tyB, lstAt, e]
  all_goals (cases isB "dict" n <;> rfl)
theorem lst_at {i : Nat} {h : MH} {xs : List W} (e : h[i]? = some (.lst xs)) : lstAt h i = some xs := by
  simp [lstAt, e]
theorem get_app {h : MH} {i k : Nat} (l : MH) (e : i = h.length + k) : (h ++ l)[i]? = l[k]? := by
  subst e
  rw [List.getElem?_append_right (by omega), Nat.add_sub_cancel_left]
theorem Fr.set_new {b : Nat} {h h' : MH} {j : Nat} {o : Ob} (x : Fr b h h') (hj : h.length ≤ j) : Fr b h (h'.set j o) := ⟨by simpa using x.le, fun i hi hl => by rw [List.getElem?_set_ne (by omega), x.at_ i hi hl]⟩
end PM
/-! Sm15: own classes: fields, methods, instances; defs with defaults. -/
namespace PM
open PySem PySem.Spec L2
open PyProof.Rows hiding St
section
variable {K : PySem.W.Frag} {b : Bs} {h : MH} {p : Addr} {o : HO}
/-- an object beside the mirror's -/
def Bs.hid (b : Bs) (p : Addr) (o : HO) : Bs := ⟨b.at_, b.n, upd b.H p o⟩
theorem Ext.hid (hp : b.H p = none) : PM.Ext K b (b.hid p o) :=
  ⟨Nat.le_refl _, fun _ _ => rfl, fun a xs h => sqT_upd h fun q e => (by rw [hp] at e; cases e), fun a o' u h => (upd_ne (ne_of_none h hp)).trans h⟩
theorem Sim.hid (S : Sim K b h) (hp : b.H p = none) : Sim K (b.hid p o) h :=
  ⟨S.len, fun i u e => (S.ob i u e).keep (Ext.hid hp) (S.lt e) fun q _ hq => by
    show upd b.H p o _ = _
    rw [upd_ne (ne_of_none hq hp)]
    exact hq, S.inj⟩
/-- a new instance -/
theorem Sim.made (S : Sim K b h) {x dx : Addr} {C : Str} (hx : b.H x = none) (hd : b.H dx = none) (ne : dx ≠ x) :
    PM.Ext K b ((b.hid dx (.own x)).push x (.ins (He.ga K C) dx [])) ∧ Sim K ((b.hid dx (.own x)).push x (.ins (He.ga K C) dx [])) (h ++ [.ins C []]) ∧ Rl K ((b.hid dx (.own x)).push x (.ins (He.ga K C) dx [])) (.ref h.length) (.ref x) := by
  have hx' : (b.hid dx (.own x)).H x = none := by
    show upd b.H dx _ x = none
    rw [upd_ne (Ne.symm ne)]; exact hx
  have S1 : Sim K (b.hid dx (.own x)) h := S.hid hd
  refine ⟨(Ext.hid hd).trans (Ext.push hx'), S1.push hx' ⟨dx, [], ?_, .nil⟩, ?_⟩
  · rw [Bs.push_at]; exact upd_same
  · have : (b.hid dx (.own x)).n = h.length := S.len
    rw [← this]
    have r := Rl.ref (K := K) (b := (b.hid dx (.own x)).push x (.ins (He.ga K C) dx [])) (b.hid dx (.own x)).n (Nat.lt_succ_self _)
    rwa [Bs.push_at] at r
end
/-! ### fields -/
def fldM (fs : List (Str × W)) (f : Str) : Option W := (fs.find? fun p => decide (p.1 = f)).map (·.2)
def putFM (f : Str) (w : W) : List (Str × W) → List (Str × W)
  | [] => [(f, w)]
  | (g, y) :: r => if g = f then (g, w) :: r else (g, y) :: putFM f w r
section
variable {K : PySem.W.Frag} {b : Bs} {fs : List (Str × W)} {ps : List (Str × V)} {f : Str} {w : W} {v : V}
theorem Rlk.lookup (r : Rlk K b fs ps) (e : fldM fs f = some w) : ∃ v, ps.lookup f = some v ∧ Rl K b w v := by
  induction fs generalizing ps with
  | nil => cases e
  | cons p fs ih =>
    obtain ⟨g, y⟩ := p
    obtain ⟨v, qs, rfl, r1, r2⟩ := r.inv
    unfold fldM at e
    rw [List.find?_cons] at e
    by_cases hg : g = f
    · subst hg
      simp at e; subst e
      exact ⟨v, by simp [List.lookup], r1⟩
    · have : decide (g = f) = false := decide_eq_false hg
      simp only [this] at e
      obtain ⟨v', h1, h2⟩ := ih r2 e
      refine ⟨v', ?_, h2⟩
      rw [List.lookup_cons]
      have : (f == g) = false := by simpa using fun z => hg z.symm
      rw [this]; exact h1
theorem Rlk.lookup_none (r : Rlk K b fs ps) (e : fldM fs f = none) : ps.lookup f = none := by
  induction fs generalizing ps with
  | nil => rw [r.inv_nil]; rfl
  | cons p fs ih =>
    obtain ⟨g, y⟩ := p
    obtain ⟨v, qs, rfl, r1, r2⟩ := r.inv
    unfold fldM at e
    rw [List.find?_cons] at e
    by_cases hg : g = f
    · subst hg
      simp at e
    · have : decide (g = f) = false := decide_eq_false hg
      simp only [this] at e
      rw [List.lookup_cons]
      have : (f == g) = false := by simpa using fun z => hg z.symm
      rw [this]; exact ih r2 e
end
section
variable {K : PySem.W.Frag} {b : Bs} {fs : List (Str × W)} {ps : List (Str × V)} {f : Str} {w : W} {v : V}
theorem Rlk.putF (r : Rlk K b fs ps) (q : Rl K b w v) : Rlk K b (putFM f w fs) (L2.putF f v ps) := by
  induction fs generalizing ps with
  | nil => rw [r.inv_nil]; exact Rlk.cons q .nil
  | cons p fs ih =>
    obtain ⟨g, y⟩ := p
    obtain ⟨v', qs, rfl, r1, r2⟩ := r.inv
    show Rlk K b (if g = f then (g, w) :: fs else (g, y) :: putFM f w fs) (if g = f then (g, v) :: qs else (g, v') :: L2.putF f v qs)
    by_cases hg : g = f
    · rw [if_pos hg, if_pos hg]; exact Rlk.cons q r2
    · rw [if_neg hg, if_neg hg]; exact Rlk.cons r1 (ih r2)
theorem Rlk.len {κ : Type} {fs : List (κ × W)} {ps : List (κ × V)} (r : Rlk K b fs ps) : ps.length = fs.length := by
  have := congrArg List.length r.1
  simpa using this
end
/-- the instance at i: its class and fields -/
def insAt (h : MH) (i : Nat) : Option (Str × List (Str × W)) := match h[i]? with
  | some (.ins C fs) => some (C, fs)
  | _ => none
theorem insAt_eq {h : MH} {i : Nat} {C : Str} {fs : List (Str × W)} (e : insAt h i = some (C, fs)) : h[i]? = some (.ins C fs) := by
  unfold insAt at e
  split at e
  · rename_i C' fs' q; cases e; exact q
  · cases e
theorem Sim.ins {K : PySem.W.Frag} {b : Bs} {h : MH} (S : Sim K b h) {i : Nat} {C : Str} {fs : List (Str × W)} (e : insAt h i = some (C, fs)) : ∃ dx ps, b.H (b.at_ i) = some (.ins (He.ga K C) dx ps) ∧ Rlk K b fs ps :=
  S.ob i _ (insAt_eq e)
/-- e.f: a field of an instance of a class of cs, no class of which has the name -/
def eFld (cs : List Str) (f : Str) (m : EM) : EM := fun σ h => (m σ h).bind fun x g => match x with
  | .ref i => match insAt g i with
    | some (C, fs) => if C ∈ cs then match fldM fs f with
      | some w => .ok w g
      | none => .stuck else .stuck
    | none => .stuck
  | _ => .stuck
section
variable {X : Cx} {Wx : WX} {e o value : Expr} {f : Str} {cs : List Str} {m mo mv : EM} {pos pos' : Pos}
theorem se_fld (hc : ∀ C ∈ cs, Cls X.K (He.ga X.K C) ∧ NoAttr X.K (He.ga X.K C) f) (he : SE X Wx e m) (hb : attributeBase e f X.env (eval e X.env) = eval e X.env := by rfl) : SE X Wx (.Attribute e f pos) (eFld cs f m) := by
  refine ⟨pe_imp (pe_fld he.pe hb) fun σ H Q ⟨b, h, σm, eH, S, l, q⟩ => ?_⟩
  refine ⟨b, h, σm, eH, S, l, (Post.bind (rel := Rl X.K) q).mono fun x' H1 ⟨c1, x, h1, eH, E1, S1, r1, q1⟩ => ?_⟩
  subst eH
  cases r1 with
  | ref i hi =>
    dsimp only at q1
    cases ei : insAt h1 i with
    | none => rw [ei] at q1; exact q1.elim
    | some z =>
      obtain ⟨C, fs⟩ := z
      rw [ei] at q1
      dsimp only at q1
      by_cases hC : C ∈ cs
      case neg => rw [if_neg hC] at q1; exact q1.elim
      rw [if_pos hC] at q1
      cases ef : fldM fs f with
      | none => rw [ef] at q1; exact q1.elim
      | some w =>
        rw [ef] at q1
        obtain ⟨dx, ps, h2, r2⟩ := S1.ins ei
        obtain ⟨v, h3, r3⟩ := r2.lookup ef
        exact ⟨_, _, dx, ps, v, rfl, h2, (hc C hC).1, (hc C hC).2, h3, q1.here S1 r3⟩
  | _ => exact q1.elim
/-- o.f = value -/
def sFldM (cs : List Str) (f : Str) (mo mv : EM) : SM := fun σ h => (mv σ h).st σ fun y h1 => (mo σ h1).st σ fun x h2 => match x with
  | .ref i => match insAt h2 i with
    | some (C, fs) => if C ∈ cs ∧ fs.length < 1000 then .nx σ (h2.set i (.ins C (putFM f y fs))) else .stuck
    | none => .stuck
  | _ => .stuck
theorem ss_fld (hc : ∀ C ∈ cs, Cls X.K (He.ga X.K C) ∧ NoAttr X.K (He.ga X.K C) f) (ho : SE X Wx o mo) (hv : SE X Wx value mv) (hs : swapsWith value (some (.Attribute o f pos')) pos.line X.env = pure false := by rfl) :
    SS X Wx (.Assign [.Attribute o f pos'] value pos) (sFldM cs f mo mv) := by
  refine ⟨ps_imp (ps_fld ho.pe hv.pe hs) fun D σ H ⟨b, h, σm, eH, S, l, q⟩ => ?_⟩
  refine ⟨b, h, σm, eH, S, l, (PostS.st (rel := Rl X.K) l q).mono fun y' H1 ⟨c1, y, h1, eH, E1, S1, r1, q1⟩ => ?_⟩
  subst eH
  refine ⟨c1, h1, σm, rfl, S1, l.ext E1, (PostS.st (rel := Rl X.K) (l.ext E1) q1).mono fun x' H2 ⟨c2, x, h2, eH, E2, S2, r2, q2⟩ => ?_⟩
  subst eH
  cases r2 with
  | ref i hi =>
    dsimp only at q2
    cases ei : insAt h2 i with
    | none => rw [ei] at q2; exact q2.elim
    | some z =>
      obtain ⟨C, fs⟩ := z
      rw [ei] at q2
      dsimp only at q2
      by_cases hC : C ∈ cs ∧ fs.length < 1000
      case neg => rw [if_neg hC] at q2; exact q2.elim
      rw [if_pos hC] at q2
      obtain ⟨dx, ps, h3, r3⟩ := S2.ins ei
      refine ⟨_, _, dx, ps, rfl, h3, (hc C hC.1).1, (hc C hC.1).2, by rw [r3.len]; exact hC.2, ?_⟩
      have ex : PM.Ext X.K c2 (c2.put i (.ins (He.ga X.K C) dx (L2.putF f y' ps))) := Ext.put (S2.ob i _ (insAt_eq ei)) rfl
      exact q2 (c2.put i (.ins (He.ga X.K C) dx (L2.putF f y' ps))) _ ex (S2.put (insAt_eq ei) rfl rfl ⟨dx, _, upd_same, (r3.putF (r1.ext E2)).ext ex⟩) (((l.ext E1).ext E2).ext ex)
  | _ => exact q2.elim
end
end PM
/-! Sm16: what may be called: defs with defaults, methods, classes. -/
namespace PM
open PySem PySem.Spec L2
open PyProof.Rows hiding St
/-- tgt, called with np values and keywords named ks, does what m tells -/
structure CalG (X : Cx) (Wx : WX) (tgt : Value) (np : Nat) (ks : List Str) (m : List W → List W → MH → R W) : Prop where
  run : ∀ {pins : List (Addr × Obj)} {σ : L2.St} {b : Bs} {h : MH} {s : Shared} {Q : VK} {us zs : List Value} {vs ys : List V} {ws xs : List W},
    Inv X pins σ b.H s → Vals vs us → Vals ys zs → Sim X.K b h → Rls X.K b ws vs → Rls X.K b xs ys → Post X.K (Rl X.K) (fun c d H' => Wx c d σ H') b Q (if ws.length = np ∧ xs.length = ks.length then m ws xs h else .stuck) →
    wpAny (model X.prog X.w) X.A (call tgt us (ks.zip zs)) (EP X pins σ Q) X.xe s
  kp : PySem.W.keepIn X.K tgt = true
section
variable {X : Cx} {Wx : WX} {k : Nat} {f : Addr} {fd : FuncData} {ps ks : List Str} {m : FM} {x C mn : Str} {p pos apos : Pos} {e o : Expr} {es : List Expr} {kws : List Keyword} {mo : EM} {n nk : AM} {np kn : Nat} {g : List Value → List Value → List Value} {gV : List V → List V → List V} {gW : List W → List W → List W}
  {mm : List W → List W → MH → R W} {tgt : Value}
theorem calG_fn (F : FnG X.prog X.w X.K X.mg X.base k f fd ps m) (hr : Room k X.A) (hgd : X.A.guards = some []) (tk : Takes X Wx) (hb : KbG X.K fd ps ks np g gV gW) (kp : PySem.W.keepIn X.K (.ref f) = true) : CalG X Wx (.ref f) np ks (fun ws zs => m (gW ws zs)) :=
  ⟨fun I rv ry S rw rx q => run_kw F hr hgd tk hb I rv ry S rw rx q, kp⟩
/-- a class: the new instance, then __init__ -/
def mkM (C : Str) (m : List W → List W → MH → R W) : List W → List W → MH → R W := fun ws zs h => (m (.ref h.length :: ws) zs (h ++ [.ins C []])).bind fun r h2 => match r with
  | .non => .ok (.ref h.length) h2
  | _ => .stuck
theorem calG_mk (M : Mk X.K (He.ga X.K C) f) (F : FnG X.prog X.w X.K X.mg X.base k f fd ps m) (hr : Room (k + 1) X.A) (hgd : X.A.guards = some []) (tk : Takes X Wx) (hb : KbG X.K fd ps ks (np + 1) g gV gW) : CalG X Wx (.ref (He.ga X.K C)) np ks (mkM C fun ws zs => m (gW ws zs)) := by
  refine ⟨fun {pins σ b h s Q us zs vs ys ws xs} I rv ry S rw rx q => ?_, M.kp⟩
  by_cases hl : ws.length = np ∧ xs.length = ks.length
  case neg => rw [if_neg hl] at q; exact q.elim
  rw [if_pos hl] at q
  unfold mkM at q
  dsimp only at q
  have hx : b.H (s.heap.objs.size + 1) = none := I.hok.fresh (Nat.le_succ _)
  have hd : b.H s.heap.objs.size = none := I.hok.fresh (Nat.le_refl _)
  have I2 := Inv.made (C := He.ga X.K C) I
  obtain ⟨ex, S2, r0⟩ := S.made (C := C) hx hd (Nat.ne_of_lt (Nat.lt_succ_self _))
  have r1 : Vals (V.ref (s.heap.objs.size + 1) :: vs) (Value.ref (s.heap.objs.size + 1) :: us) := .cons rfl rv
  have r2 := hb.rel r1 ry
  have w1 := Rls.cons r0 (rw.ext ex)
  have w2 := hb.relW w1 (rx.ext ex)
  have n1 : (Value.ref (s.heap.objs.size + 1) :: us).length = np + 1 := by rw [List.length_cons, ← rv.length, ← rw.length, hl.1]
  have n2 : zs.length = ks.length := by rw [← ry.length, ← rx.length, hl.2]
  have hz : (g (Value.ref (s.heap.objs.size + 1) :: us) zs).length = ps.length := by
    rw [← r2.length, ← w2.length]
    refine Classical.byContradiction fun z => ?_
    rw [F.len _ _ z] at q
    exact q.elim
  have q2 := Post.bind (rel := Rl X.K) (q.ext ex)
  refine wpAny_call (make_map (f := f) I.kIn M.makes M.init (beq_iff_eq.mp M.fn) (codeAny_mono (F.run _ X.stack _ _ _ ⟨Value.ref (s.heap.objs.size + 1) :: us, ks.zip zs⟩ (g (Value.ref (s.heap.objs.size + 1) :: us) zs) _ _
    (fun v H3 => v = .non ∧ Q (.ref (s.heap.objs.size + 1)) H3) (fun c d H' => Wx c d σ H') (hr.make (He.ga X.K C) us (ks.zip zs)) hgd
    (I2.env0.make (He.ga X.K C) us (ks.zip zs)) (hb.to _ (Value.ref (s.heap.objs.size + 1) :: us) zs I2.kIn n1 n2 hz) r2 S2 w2 (q2.mono fun v H3 ⟨c, w, g', eH, E, S3, r3, q3⟩ => ?_)) fun r s' hq' => ?_))
  · subst eH
    cases r3 with
    | non => exact ⟨rfl, q3.here S3 (r0.ext E)⟩
    | _ => exact q3.elim
  · cases r with
    | error e => exact tk e s' (XE.of_call I2 (fun _ _ _ z => z) hq')
    | ok fl =>
      cases fl with
      | ret u =>
        obtain ⟨v, H', I3, rv3, ev, q3⟩ := I2.after hq'
        subst ev
        exact ⟨rv3, ⟨V.ref (s.heap.objs.size + 1), H', I3, rfl, q3⟩⟩
      | next => exact False.elim hq'
      | brk => exact False.elim hq'
      | cont => exact False.elim hq'
/-! ### the call of a global name -/
def eCal (np nk : Nat) (m : List W → List W → MH → R W) (n k : AM) : EM := fun σ h => (n σ h).bind fun ws h1 => (k σ h1).bind fun zs h2 => if ws.length = np ∧ zs.length = nk then m ws zs h2 else .stuck
theorem se_cal (c : CalG X Wx tgt np [] mm) (hg : Gl X x) (hm : X.mg x = some tgt) (ha : SA X Wx (e :: es) n)
    (hdb : (x == ("__debug__" : Str)) = false := by decide) (he : starEach (e :: es) X.env = (false, eval e X.env) :: starEach es X.env := by rfl) (hpl : (backTo pos (starEach es X.env)).any (·.1) = false := by rfl) :
    SE X Wx (.Call (.Name x p) (e :: es) [] pos) (eCal np 0 mm n aNil) := by
  refine ⟨⟨fun pins s σ H Q I q => ?_⟩⟩
  obtain ⟨b, h, σm, rfl, S, l, q⟩ := q
  refine wpAny_Call_Name_kw (ld_glob I hg hm ?_ hdb)
  refine PySem.W.callWith_K (h₀ := X.base) I.ok.mod.kin c.kp (thn (ha.run pos I S l (Post.bind q)) fun us s1 ⟨vs, H1, I1, r1, c1, ws, h1, e1, E1, S1, l1, q1⟩ => ?_) he hpl
  subst e1
  exact ⟨I1.kIn, c.run (zs := []) (ys := []) (xs := []) I1 r1 .nil S1 l1 .nil q1⟩
theorem se_cal0 (c : CalG X Wx tgt np [] mm) (hg : Gl X x) (hm : X.mg x = some tgt) (hdb : (x == ("__debug__" : Str)) = false := by decide) : SE X Wx (.Call (.Name x p) [] [] pos) (eCal np 0 mm aNil aNil) := by
  refine ⟨⟨fun pins s σ H Q I q => ?_⟩⟩
  obtain ⟨b, h, σm, rfl, S, l, q⟩ := q
  refine wpAny_Call_Name_kw (ld_glob I hg hm ?_ hdb)
  exact PySem.W.callWith_K0 I.kIn c.kp (c.run (us := []) (vs := []) (ws := []) (zs := []) (ys := []) (xs := []) I .nil .nil S .nil .nil q)
theorem se_calK (c : CalG X Wx tgt np ks mm) (hn : ks.length = kn) (hg : Gl X x) (hm : X.mg x = some tgt) (ha : SA X Wx (e :: es) n) (hkw : SK X Wx kws nk) (hall : (backToKw pos (keywordEach kws X.env)).all (·.1.isSome) = true := by rfl)
    (hks : (backToKw pos (keywordEach kws X.env)).filterMap (·.1) = ks := by rfl) (hdb : (x == ("__debug__" : Str)) = false := by decide) (he : starEach (e :: es) X.env = (false, eval e X.env) :: starEach es X.env := by rfl)
    (hpl : ((backTo pos (starEach (e :: es) X.env)).any (·.1) || (backToKw pos (keywordEach kws X.env)).any (·.1.isNone)) = false := by rfl) :
    SE X Wx (.Call (.Name x p) (e :: es) kws pos) (eCal np kn mm n nk) := by
  subst hn
  refine ⟨⟨fun pins s σ H Q I q => ?_⟩⟩
  obtain ⟨b, h, σm, rfl, S, l, q⟩ := q
  refine wpAny_Call_Name_kw (ld_glob I hg hm ?_ hdb)
  refine PySem.W.callWith_KW (h₀ := X.base) I.ok.mod.kin c.kp hall (thn (ha.run pos I S l (Post.bind q)) fun us s1 ⟨vs, H1, I1, r1, c1, ws, h1, e1, E1, S1, l1, q1⟩ => ?_) hpl he
  subst e1
  refine thn (hkw.pk.run pos pins s1 σ _ _ I1 ⟨c1, h1, σm, rfl, S1, l.ext E1, Post.bind q1⟩) fun zs s2 ⟨ys, H2, I2, r2, c2, xs, h2, e2, E2, S2, l2, q2⟩ => ?_
  subst e2
  refine ⟨I2.kIn, ?_⟩
  rw [hks]
  exact c.run I2 r1 r2 S2 (l1.ext E2) l2 q2
theorem se_calK0 (c : CalG X Wx tgt np ks mm) (hn : ks.length = kn) (hg : Gl X x) (hm : X.mg x = some tgt) (hkw : SK X Wx kws nk) (hall : (backToKw pos (keywordEach kws X.env)).all (·.1.isSome) = true := by rfl)
    (hks : (backToKw pos (keywordEach kws X.env)).filterMap (·.1) = ks := by rfl) (hdb : (x == ("__debug__" : Str)) = false := by decide)
    (hpl : ((backTo pos (starEach [] X.env)).any (·.1) || (backToKw pos (keywordEach kws X.env)).any (·.1.isNone)) = false := by rfl) :
    SE X Wx (.Call (.Name x p) [] kws pos) (eCal np kn mm aNil nk) := by
  subst hn
  refine ⟨⟨fun pins s σ H Q I q => ?_⟩⟩
  obtain ⟨b, h, σm, rfl, S, l, q⟩ := q
  refine wpAny_Call_Name_kw (ld_glob I hg hm ?_ hdb)
  refine PySem.W.callWith_KW0 (h₀ := X.base) I.ok.mod.kin c.kp hall ?_ hpl
  have q0 : Post X.K (Rls X.K) (fun c d H' => Wx c d σ H') b _ (nk σm h) := Post.bind (rel := Rls X.K) (k := fun zs h2 => if ([] : List W).length = np ∧ zs.length = ks.length then mm [] zs h2 else .stuck) q
  refine thn (hkw.pk.run pos pins s σ _ _ I ⟨b, h, σm, rfl, S, l, q0⟩) fun zs s2 ⟨ys, H2, I2, r2, c2, xs, h2, e2, E2, S2, l2, q2⟩ => ?_
  subst e2
  refine ⟨I2.kIn, ?_⟩
  rw [hks]
  exact c.run (us := []) (vs := []) (ws := []) I2 .nil r2 S2 .nil l2 q2
/-! ### methods -/
/-- o.m(..), an instance of the class C; the method's values: the instance first -/
def metG (C mn : Str) (x : W) (g : MH) (k : Nat → MH → R W) : R W := match x with
  | .ref i => match insAt g i with
    | some (C', fs) => if C' = C ∧ fldM fs mn = none then k i g else .stuck
    | none => .stuck
  | _ => .stuck
def eMet (C mn : Str) (np nk : Nat) (m : List W → List W → MH → R W) (mo : EM) (n k : AM) : EM := fun σ h => (mo σ h).bind fun x g => metG C mn x g fun i g => (n σ g).bind fun ws h1 => (k σ h1).bind fun zs h2 =>
  if (W.ref i :: ws).length = np ∧ zs.length = nk then m (.ref i :: ws) zs h2 else .stuck
theorem met_cut {pins : List (Addr × Obj)} {σ : L2.St} {s : Shared} {c1 : Bs} {h1 : MH} {w : W} {x : V} {u : Value} {Q : VK} {k : Nat → MH → R W} {A : Around} {E : Value → Shared → Prop} {pl : Sem Bool} {R : Value × List Value → Shared → Prop}
    (c : Cls X.K (He.ga X.K C)) (hm : Meth X.K (He.ga X.K C) mn f) (I : Inv X pins σ c1.H s) (S1 : Sim X.K c1 h1) (rx : RelV x u) (r1 : Rl X.K c1 w x)
    (q : Post X.K (Rl X.K) (fun c d H' => Wx c d σ H') c1 Q (metG C mn w h1 k))
    (go : ∀ i, w = .ref i → x = .ref (c1.at_ i) → u = .ref (c1.at_ i) → Rl X.K c1 (.ref i) (.ref (c1.at_ i)) → Post X.K (Rl X.K) (fun c d H' => Wx c d σ H') c1 Q (k i h1) → R (.ref f, [.ref (c1.at_ i)]) s) :
    wpAny (model X.prog X.w) A (getMethod u mn pl) R E s := by
  unfold metG at q
  cases r1 with
  | ref i hi =>
    dsimp only at q
    cases ei : insAt h1 i with
    | none => rw [ei] at q; exact q.elim
    | some z =>
      obtain ⟨C', fs⟩ := z
      rw [ei] at q
      dsimp only at q
      by_cases hC : C' = C ∧ fldM fs mn = none
      case neg => rw [if_neg hC] at q; exact q.elim
      rw [if_pos hC] at q
      obtain ⟨rfl, hf⟩ := hC
      obtain ⟨dx, ps, h3, r3⟩ := S1.ins ei
      obtain rfl : u = Value.ref (c1.at_ i) := rx
      exact getmeth_ok I h3 c hm (r3.lookup_none hf) (go i rfl rfl rfl (.ref i hi) q)
  | _ => exact q.elim
theorem se_met {pl : Sem Bool} (c : Cls X.K (He.ga X.K C)) (hm : Meth X.K (He.ga X.K C) mn f) (cg : CalG X Wx (.ref f) np [] mm) (ho : SE X Wx o mo) (ha : SA X Wx (e :: es) n)
    (he : starEach (e :: es) X.env = (false, eval e X.env) :: starEach es X.env := by rfl) (hpl : (backTo pos (starEach es X.env)).any (·.1) = false := by rfl)
    (ht : eval (.Call (.Attribute o mn apos) (e :: es) [] pos) X.env = (do
      let ov ← eval o X.env
      standAt apos.atName
      let (f, first) ← holding [ov] (getMethod ov mn pl)
      callWith pos f first (backTo pos (starEach (e :: es) X.env)) (backToKw pos (keywordEach [] X.env))) := by rfl) : SE X Wx (.Call (.Attribute o mn apos) (e :: es) [] pos) (eMet C mn np 0 mm mo n aNil) := by
  refine ⟨⟨fun pins s σ H Q I q => ?_⟩⟩
  obtain ⟨b, h, σm, rfl, S, l, q⟩ := q
  refine PySem.W.methodCall_KW (pl := pl) (thn (ho.pe.run pins s σ _ _ I ⟨b, h, σm, rfl, S, l, Post.bind (rel := Rl X.K) q⟩) fun u s0 ⟨x, H0, I0, rx, c0, w, g, e0, E0, S0, r0, q0⟩ => ?_) ht
  subst e0
  refine met_cut (Wx := Wx) c hm I0 S0 rx r0 q0 fun i _ _ _ ri qi => ?_
  refine PySem.W.callWith_K (first := [.ref (c0.at_ i)]) (h₀ := X.base) I0.ok.mod.kin hm.kp (thn (ha.run pos I0 S0 (l.ext E0) (Post.bind qi)) fun us s1 ⟨vs, H1, I1, r1, c1, ws, h1, e1, E1, S1, l1, q1⟩ => ?_) he hpl
  subst e1
  exact ⟨I1.kIn, cg.run (us := .ref (c0.at_ i) :: us) (vs := .ref (c0.at_ i) :: vs) (ws := .ref i :: ws) (zs := []) (ys := []) (xs := []) I1 (.cons rfl r1) .nil S1 (.cons (ri.ext E1) l1) .nil q1⟩
theorem se_met0 {pl : Sem Bool} (c : Cls X.K (He.ga X.K C)) (hm : Meth X.K (He.ga X.K C) mn f) (cg : CalG X Wx (.ref f) np [] mm) (ho : SE X Wx o mo)
    (ht : eval (.Call (.Attribute o mn apos) [] [] pos) X.env = (do
      let ov ← eval o X.env
      standAt apos.atName
      let (f, first) ← holding [ov] (getMethod ov mn pl)
      callWith pos f first (backTo pos (starEach [] X.env)) (backToKw pos (keywordEach [] X.env))) := by rfl) : SE X Wx (.Call (.Attribute o mn apos) [] [] pos) (eMet C mn np 0 mm mo aNil aNil) := by
  refine ⟨⟨fun pins s σ H Q I q => ?_⟩⟩
  obtain ⟨b, h, σm, rfl, S, l, q⟩ := q
  refine PySem.W.methodCall_KW (pl := pl) (thn (ho.pe.run pins s σ _ _ I ⟨b, h, σm, rfl, S, l, Post.bind (rel := Rl X.K) q⟩) fun u s0 ⟨x, H0, I0, rx, c0, w, g, e0, E0, S0, r0, q0⟩ => ?_) ht
  subst e0
  refine met_cut (Wx := Wx) c hm I0 S0 rx r0 q0 fun i _ _ _ ri qi => ?_
  exact PySem.W.callWith_K0 (first := [.ref (c0.at_ i)]) I0.kIn hm.kp (cg.run (us := [.ref (c0.at_ i)]) (vs := [.ref (c0.at_ i)]) (ws := [.ref i]) (zs := []) (ys := []) (xs := []) I0 (.cons rfl .nil) .nil S0 (.cons ri .nil) .nil qi)
theorem se_metK {pl : Sem Bool} (c : Cls X.K (He.ga X.K C)) (hm : Meth X.K (He.ga X.K C) mn f) (cg : CalG X Wx (.ref f) np ks mm) (hn : ks.length = kn) (ho : SE X Wx o mo) (ha : SA X Wx (e :: es) n) (hkw : SK X Wx kws nk)
    (hall : (backToKw pos (keywordEach kws X.env)).all (·.1.isSome) = true := by rfl) (hks : (backToKw pos (keywordEach kws X.env)).filterMap (·.1) = ks := by rfl)
    (he : starEach (e :: es) X.env = (false, eval e X.env) :: starEach es X.env := by rfl) (hpl : ((backTo pos (starEach (e :: es) X.env)).any (·.1) || (backToKw pos (keywordEach kws X.env)).any (·.1.isNone)) = false := by rfl)
    (ht : eval (.Call (.Attribute o mn apos) (e :: es) kws pos) X.env = (do
      let ov ← eval o X.env
      standAt apos.atName
      let (f, first) ← holding [ov] (getMethod ov mn pl)
      callWith pos f first (backTo pos (starEach (e :: es) X.env)) (backToKw pos (keywordEach kws X.env))) := by rfl) : SE X Wx (.Call (.Attribute o mn apos) (e :: es) kws pos) (eMet C mn np kn mm mo n nk) := by
  subst hn
  refine ⟨⟨fun pins s σ H Q I q => ?_⟩⟩
  obtain ⟨b, h, σm, rfl, S, l, q⟩ := q
  refine PySem.W.methodCall_KW (pl := pl) (thn (ho.pe.run pins s σ _ _ I ⟨b, h, σm, rfl, S, l, Post.bind (rel := Rl X.K) q⟩) fun u s0 ⟨x, H0, I0, rx, c0, w, g, e0, E0, S0, r0, q0⟩ => ?_) ht
  subst e0
  refine met_cut (Wx := Wx) c hm I0 S0 rx r0 q0 fun i _ _ _ ri qi => ?_
  refine PySem.W.callWith_KW (first := [.ref (c0.at_ i)]) (h₀ := X.base) I0.ok.mod.kin hm.kp hall (thn (ha.run pos I0 S0 (l.ext E0) (Post.bind qi)) fun us s1 ⟨vs, H1, I1, r1, c1, ws, h1, e1, E1, S1, l1, q1⟩ => ?_) hpl he
  subst e1
  refine thn (hkw.pk.run pos pins s1 σ _ _ I1 ⟨c1, h1, σm, rfl, S1, (l.ext E0).ext E1, Post.bind q1⟩) fun zs s2 ⟨ys, H2, I2, r2, c2, xs, h2, e2, E2, S2, l2, q2⟩ => ?_
  subst e2
  refine ⟨I2.kIn, ?_⟩
  rw [hks]
  exact cg.run (us := .ref (c0.at_ i) :: us) (vs := .ref (c0.at_ i) :: vs) (ws := .ref i :: ws) I2 (.cons rfl r1) r2 S2 (.cons ((ri.ext E1).ext E2) (l1.ext E2)) l2 q2
theorem se_metK0 {pl : Sem Bool} (c : Cls X.K (He.ga X.K C)) (hm : Meth X.K (He.ga X.K C) mn f) (cg : CalG X Wx (.ref f) np ks mm) (hn : ks.length = kn) (ho : SE X Wx o mo) (hkw : SK X Wx kws nk)
    (hall : (backToKw pos (keywordEach kws X.env)).all (·.1.isSome) = true := by rfl) (hks : (backToKw pos (keywordEach kws X.env)).filterMap (·.1) = ks := by rfl)
    (hpl : ((backTo pos (starEach [] X.env)).any (·.1) || (backToKw pos (keywordEach kws X.env)).any (·.1.isNone)) = false := by rfl)
    (ht : eval (.Call (.Attribute o mn apos) [] kws pos) X.env = (do
      let ov ← eval o X.env
      standAt apos.atName
      let (f, first) ← holding [ov] (getMethod ov mn pl)
      callWith pos f first (backTo pos (starEach [] X.env)) (backToKw pos (keywordEach kws X.env))) := by rfl) : SE X Wx (.Call (.Attribute o mn apos) [] kws pos) (eMet C mn np kn mm mo aNil nk) := by
  subst hn
  refine ⟨⟨fun pins s σ H Q I q => ?_⟩⟩
  obtain ⟨b, h, σm, rfl, S, l, q⟩ := q
  refine PySem.W.methodCall_KW (pl := pl) (thn (ho.pe.run pins s σ _ _ I ⟨b, h, σm, rfl, S, l, Post.bind (rel := Rl X.K) q⟩) fun u s0 ⟨x, H0, I0, rx, c0, w, g, e0, E0, S0, r0, q0⟩ => ?_) ht
  subst e0
  refine met_cut (Wx := Wx) c hm I0 S0 rx r0 q0 fun i _ _ _ ri qi => ?_
  refine PySem.W.callWith_KW0 (first := [.ref (c0.at_ i)]) (h₀ := X.base) I0.ok.mod.kin hm.kp hall ?_ hpl
  have q1 : Post X.K (Rls X.K) (fun c d H' => Wx c d σ H') c0 _ (nk σm g) := Post.bind (rel := Rls X.K) (k := fun zs h2 => if ([W.ref i] : List W).length = np ∧ zs.length = ks.length then mm [.ref i] zs h2 else .stuck) qi
  refine thn (hkw.pk.run pos pins s0 σ _ _ I0 ⟨c0, g, σm, rfl, S0, l.ext E0, q1⟩) fun zs s2 ⟨ys, H2, I2, r2, c2, xs, h2, e2, E2, S2, l2, q2⟩ => ?_
  subst e2
  refine ⟨I2.kIn, ?_⟩
  rw [hks]
  exact cg.run (us := [.ref (c0.at_ i)]) (vs := [.ref (c0.at_ i)]) (ws := [.ref i]) I2 (.cons rfl .nil) r2 S2 (.cons (ri.ext E2) .nil) l2 q2
end
end PM
/-! Sm17: own classes: properties, ==, !=, in, len. -/
namespace PM
open PySem PySem.Spec L2
open PyProof.Rows hiding St
section
variable {X : Cx} {Wx : WX} {k : Nat} {f : Addr} {fd : FuncData} {ps ks : List Str} {m : FM} {C : Str} {np : Nat} {g : List Value → List Value → List Value} {gV : List V → List V → List V} {gW : List W → List W → List W} {mm : List W → List W → MH → R W}
/-- the def at f, called with values only, here or one deeper -/
structure CalM (X : Cx) (Wx : WX) (f : Addr) (np : Nat) (m : List W → MH → R W) : Prop where
  here : ∀ {pins : List (Addr × Obj)} {σ : L2.St} {b : Bs} {h : MH} {s : Shared} {Q : VK} {us : List Value} {vs : List V} {ws : List W},
    Inv X pins σ b.H s → Vals vs us → Sim X.K b h → Rls X.K b ws vs → ws.length = np → Post X.K (Rl X.K) (fun c d H' => Wx c d σ H') b Q (m ws h) → wpAny (model X.prog X.w) X.A (call (.ref f) us) (EP X pins σ Q) X.xe s
  in1 : ∀ {pins : List (Addr × Obj)} {σ : L2.St} {b : Bs} {h : MH} {s : Shared} {Q : VK} {us : List Value} {vs : List V} {ws : List W},
    Inv X pins σ b.H s → Vals vs us → Sim X.K b h → Rls X.K b ws vs → ws.length = np → Post X.K (Rl X.K) (fun c d H' => Wx c d σ H') b Q (m ws h) → wpAny (model X.prog X.w) X.A.in1 (call (.ref f) us) (EP X pins σ Q) X.xe s
theorem calM_fn (F : FnG X.prog X.w X.K X.mg X.base k f fd ps m) (hr : Room (k + 1) X.A) (hgd : X.A.guards = some []) (tk : Takes X Wx) (hb : KbG X.K fd ps [] np g gV gW) : CalM X Wx f np (fun ws => m (gW ws [])) := by
  have core : ∀ (A : Around) (hr : Room k A) (hgd : A.guards = some []) {pins : List (Addr × Obj)} {σ : L2.St} {b : Bs} {h : MH} {s : Shared} {Q : VK} {us : List Value} {vs : List V} {ws : List W} (e0 : Env0 X.prog X.w X.K X.mg X.base A X.stack s b.H),
      Inv X pins σ b.H s → Vals vs us → Sim X.K b h → Rls X.K b ws vs → ws.length = np → Post X.K (Rl X.K) (fun c d H' => Wx c d σ H') b Q (m (gW ws []) h) → wpAny (model X.prog X.w) A (call (.ref f) us) (EP X pins σ Q) X.xe s := by
    intro A hr hgd pins σ b h s Q us vs ws e0 I rv S rw hl q
    have r2 := hb.rel rv (zs := []) (ws := []) .nil
    have w2 := hb.relW rw (ws := []) (zs := []) .nil
    have hz : (g us []).length = ps.length := by
      rw [← r2.length, ← w2.length]
      refine Classical.byContradiction fun z => ?_
      rw [F.len _ _ z] at q
      exact q.elim
    refine callAny_of (codeAny_mono (F.run A X.stack s b h ⟨us, []⟩ _ _ _ Q (fun c d H' => Wx c d σ H') hr hgd e0 (hb.to s us [] I.kIn (by rw [← rv.length, ← rw.length]; exact hl) rfl hz) r2 S w2 q) fun r s' hq => ?_)
    cases r with
    | error e => exact tk e s' (XE.of_call I (fun _ _ _ z => z) hq)
    | ok fl => cases fl with
      | ret u => exact I.after hq
      | next => exact hq
      | brk => exact hq
      | cont => exact hq
  exact ⟨fun I rv S rw hl q => core X.A (hr.mono (Nat.le_succ _)) hgd I.env0 I rv S rw hl q, fun I rv S rw hl q => core X.A.in1 hr.in1 hgd I.env0.in1 I rv S rw hl q⟩
/-! ### properties -/
def eProp (C : Str) (m : List W → MH → R W) (mo : EM) : EM := fun σ h => (mo σ h).bind fun x g => match x with
  | .ref i => match insAt g i with
    | some (C', _) => if C' = C then (m [.ref i] g).nox else .stuck
    | none => .stuck
  | _ => .stuck
theorem nox_post {α β : Type} {K : PySem.W.Frag} {rel : Bs → α → β → Prop} {We We' : Value → Option Addr → Hp → Prop} {b : Bs} {Q : β → Hp → Prop} {r : R α} (q : Post K rel We b Q r.nox) : Post K rel We' b Q r := by
  cases r with
  | ok a h => exact q
  | exc x h => exact q.elim
  | stuck => exact q.elim
theorem se_prop {p fp : Addr} {f : Str} {e : Expr} {me : EM} {pos : Pos} (c : Cls X.K (He.ga X.K C)) (hp : PropOf X.K (He.ga X.K C) f p fp) (F : FnG X.prog X.w X.K X.mg X.base k fp fd ps m) (hr : Room (k + 1) X.A) (hgd : X.A.guards = some []) (hb : KbG X.K fd ps [] 1 g gV gW)
    (he : SE X Wx e me) (hab : attributeBase e f X.env (eval e X.env) = eval e X.env := by rfl) : SE X Wx (.Attribute e f pos) (eProp C (fun ws => m (gW ws [])) me) := by
  refine ⟨⟨fun pins s σ H Q I q => ?_⟩⟩
  obtain ⟨b, h, σm, rfl, S, l, q⟩ := q
  refine attr_of hab (thn (he.pe.run pins s σ _ _ I ⟨b, h, σm, rfl, S, l, Post.bind (rel := Rl X.K) q⟩) fun u s1 ⟨x, H1, I1, rx, c1, w, h1, e1, E1, S1, r1, q1⟩ => ?_)
  subst e1
  cases r1 with
  | ref i hi =>
    dsimp only at q1
    cases ei : insAt h1 i with
    | none => rw [ei] at q1; exact q1.elim
    | some z =>
      obtain ⟨C', fs⟩ := z
      rw [ei] at q1
      dsimp only at q1
      by_cases hC : C' = C
      case neg => rw [if_neg hC] at q1; exact q1.elim
      rw [if_pos hC] at q1
      subst hC
      obtain ⟨dx, qs, h3, r3⟩ := S1.ins ei
      obtain rfl : u = Value.ref (c1.at_ i) := rx
      have I2 := I1.tok (s1.toks + 1)
      obtain ⟨mA, O, _, _, _, _⟩ := ins_get I1.hok h3
      obtain ⟨od, J, _⟩ := O.look
      obtain ⟨rest, hrec⟩ := hp.rec_
      have hc : (PySem.W.clsIn X.K (He.ga X.K C')).isSome = true := by
        obtain ⟨cd, hc, _⟩ := PySem.W.any_some c.hd
        rw [hc]; rfl
      have q2 : Post X.K (Rl X.K) (fun _ _ _ => False) c1 Q (m (gW [.ref i] []) h1) := nox_post q1
      have w2 := hb.relW (us := [.ref i]) (vs := [.ref (c1.at_ i)]) (ws := []) (zs := []) (b := c1) (.cons (.ref i hi) .nil) .nil
      have r2 := hb.rel (vs := [.ref (c1.at_ i)]) (us := [.ref (c1.at_ i)]) (zs := []) (ws := []) (.cons rfl .nil) .nil
      have hz : (g [.ref (c1.at_ i)] []).length = ps.length := by
        rw [← r2.length, ← w2.length]
        refine Classical.byContradiction fun z => ?_
        rw [F.len _ _ z] at q2
        exact q2.elim
      refine PySem.W.get_bind I1.kIn J (PySem.W.plainGet_of (c.get f)).1 (PySem.W.findObj_data hc hp.at_ hp.get hp.tak) (PySem.W.plainGet_of (c.get f)).2 (wpAny_call (PySem.W.prop_get (s := { s1 with toks := s1.toks + 1 }) I1.kIn hrec ?_))
      refine codeAny_mono (F.run X.A.in1 X.stack { s1 with toks := s1.toks + 1 } c1 h1 ⟨[.ref (c1.at_ i)], []⟩ _ _ _ Q (fun _ _ _ => False) hr.in1 hgd I2.env0.in1 (hb.to _ [.ref (c1.at_ i)] [] I2.kIn rfl rfl hz) r2 S1 w2 q2) fun r s' hq => ?_
      cases r with
      | error er =>
        obtain ⟨_, _, _, _, _, _, _, _, _, _, _, _, hE⟩ := hq
        exact hE.elim
      | ok fl =>
        cases fl with
        | ret u =>
          obtain ⟨v, H', I3, rv, q3⟩ := I2.after hq
          show wpAny _ _ (handedOut u) _ _ _
          rw [PySem.W.handedOut_of (handed_of rv)]
          exact wpAny_pure ⟨v, H', I3, rv, q3⟩
        | next => exact False.elim hq
        | brk => exact False.elim hq
        | cont => exact False.elim hq
  | _ => exact q1.elim
end
end PM
/-! Sm18: own classes in isinstance, ==, !=, in, len, [], |. -/
namespace PM
open PySem PySem.Spec L2
open PyProof.Rows hiding St
/-- kinds of things -/
inductive Kd where
  | ty (n : String) | own (C : Str)
deriving DecidableEq
def Kd.v (K : PySem.W.Frag) : Kd → Value
  | .ty n => .type n
  | .own C => .ref (He.ga K C)
def Kd.inC (t : Kd) (cs : List Str) : Bool := match t with
  | .own C => decide (C ∈ cs)
  | .ty _ => true
theorem Kd.inC_ok {t : Kd} {cs : List Str} (h : t.inC cs = true) : ∀ C, t = .own C → C ∈ cs := by
  rintro C rfl
  exact of_decide_eq_true h
def kdW (w : W) (h : MH) : Option Kd := match w with
  | .ref i => match insAt h i with
    | some (C, _) => some (.own C)
    | none => (tyB w h).map .ty
  | w => (tyB w h).map .ty
/-- what of the text a class must have -/
structure OwnC (K : PySem.W.Frag) (C : Str) : Prop where
  cls : Cls K (He.ga K C)
  ha : PySem.W.findIn K (.ref (He.ga K C)) "__class__" = some (some (.builtin "object.__class__"))
  hm : PySem.W.mroIn K (He.ga K C) (.type "object") = some true
  hn : PySem.W.specialIn K (.builtin "object.__class__") "__get__" = some (some (.builtin "getset_descriptor.__get__"))
  ht : PySem.W.takesIn K (.builtin "object.__class__") = some true
def ownCB (K : PySem.W.Frag) (C : Str) : Bool := (He.Fa.cls C).ok K && (He.eqO (PySem.W.findIn K (.ref (He.ga K C)) "__class__") (some (some (.builtin "object.__class__"))) && (decide (PySem.W.mroIn K (He.ga K C) (.type "object") = some true) &&
  (He.eqO (PySem.W.specialIn K (.builtin "object.__class__") "__get__") (some (some (.builtin "getset_descriptor.__get__"))) && decide (PySem.W.takesIn K (.builtin "object.__class__") = some true))))
theorem ownCB_ok {K : PySem.W.Frag} {C : Str} (h : ownCB K C = true) : OwnC K C := by
  unfold ownCB at h
  simp only [Bool.and_eq_true, decide_eq_true_eq] at h
  obtain ⟨h1, h2, h3, h4, h5⟩ := h
  exact ⟨He.cls_ok h1, He.eqO_ok h2, h3, He.eqO_ok h4, h5⟩
section
variable {X : Cx} {Wx : WX} {K : PySem.W.Frag} {b : Bs} {h : MH} {w : W} {v : V} {t : Kd} {cs : List Str}
theorem tyX_kd (hc : ∀ C ∈ cs, OwnC K C) (S : Sim K b h) (r : Rl K b w v) (e : kdW w h = some t) (hin : ∀ C, t = .own C → C ∈ cs) : TyX K b.H v (t.v K) := by
  have flat : (tyB w h).map Kd.ty = some t → TyX K b.H v (t.v K) := fun e => by
    obtain ⟨n, e1, rfl⟩ := Option.map_eq_some_iff.mp e
    exact tyX_of S r e1
  unfold kdW at e
  cases r with
  | ref i hi =>
    dsimp only at e
    cases ei : insAt h i with
    | none => rw [ei] at e; exact flat e
    | some z =>
      obtain ⟨C, fs⟩ := z
      rw [ei] at e
      cases e
      have o := hc C (hin C rfl)
      obtain ⟨dx, ps, h3, _⟩ := S.ins ei
      exact .base (.ins h3 o.cls o.ha o.hn o.ht o.hm)
  | _ => exact flat e
/-! ### isinstance -/
def cdW : W → Option Kd
  | .ty n => some (.ty n)
  | .glo C => some (.own C)
  | _ => none
abbrev IsT := List (Kd × Kd × Bool)
def isT (tb : IsT) (t c : Kd) : Option Bool := match t, c with
  | .ty a, .ty b => isB a b
  | _, _ => (tb.find? fun e => decide (e.1 = t ∧ e.2.1 = c)).map (·.2.2)
def TbOk (K : PySem.W.Frag) (tb : IsT) : Prop := ∀ e ∈ tb, PySem.W.kitOne K (e.1.v K) (e.2.1.v K) = some e.2.2
def tbB (K : PySem.W.Frag) (tb : IsT) : Bool := tb.all fun e => decide (PySem.W.kitOne K (e.1.v K) (e.2.1.v K) = some e.2.2)
theorem tbB_ok {tb : IsT} (h : tbB K tb = true) : TbOk K tb := fun e he => of_decide_eq_true (List.all_eq_true.mp h e he)
theorem isT_ok {tb : IsT} {t c : Kd} {r : Bool} (hT : TbOk K tb) (e : isT tb t c = some r) : PySem.W.kitOne K (t.v K) (c.v K) = some r := by
  have tab : (tb.find? fun e => decide (e.1 = t ∧ e.2.1 = c)).map (·.2.2) = some r → PySem.W.kitOne K (t.v K) (c.v K) = some r := fun e => by
    obtain ⟨z, e1, e2⟩ := Option.map_eq_some_iff.mp e
    have h1 := List.find?_some e1
    have h2 := List.mem_of_find?_eq_some e1
    obtain ⟨h3, h4⟩ := of_decide_eq_true h1
    rw [← h3, ← h4, ← e2]
    exact hT z h2
  unfold isT at e
  split at e
  · exact isB_ok e
  · exact tab e
/-- isinstance(x, c), c a class of any kind -/
def bIsO (cs : List Str) (tb : IsT) (ws : List W) (h : MH) : R W := match ws with
  | [w, .tup l] => bIsi [w, .tup l] h
  | [w, c] => match kdW w h, cdW c with
    | some t, some c => if t.inC cs = true then match isT tb t c with
      | some r => .ok (.bl r) h
      | none => .stuck else .stuck
    | _, _ => .stuck
  | _ => .stuck
theorem cs_isO {cs : List Str} {tb : IsT} (hc : ∀ C ∈ cs, OwnC X.K C) (hT : TbOk X.K tb) : CallS X Wx (.builtin "isinstance") (bIsO cs tb) := ⟨fun pins s σ b h ws vs us Q I S r rv q => by
  unfold bIsO at q
  split at q
  · exact cs_isi.run pins s σ b h _ vs us Q I S r rv q
  · rename_i w c _
    obtain ⟨v, y, rfl, r1, r2⟩ := rls2 r
    split at q
    · rename_i t d et ed
      by_cases hi : t.inC cs = true
      case neg => rw [if_neg hi] at q; exact q.elim
      rw [if_pos hi] at q
      split at q
      · rename_i k hk
        have ty := tyX_kd hc S r1 et (Kd.inC_ok hi)
        have kk := isT_ok hT hk
        have cv : ClsV y (d.v X.K) := by
          cases r2 with
          | ty n => cases ed; exact .ty n
          | glo C => cases ed; exact .own _
          | _ => cases ed
        exact call_isi pins s σ b.H _ us Q I rv ⟨v, y, t.v X.K, d.v X.K, k, rfl, cv, ty, kk, q.here S (.bl _)⟩
      · exact q.elim
    · exact q.elim
  · exact q.elim⟩
/-- a class's name -/
theorem se_cls {x : Str} {pos : Pos} (hg : Gl X x) (hm : X.mg x = some (.ref (He.ga X.K x))) (hd : (x == ("__debug__" : Str)) = false := by decide) : SE X Wx (.Name x pos) (eC (.glo x)) :=
  se_glob (v := .ref (He.ga X.K x)) hg hm rfl (fun _ => .glo x) hd
/-! ### == and != -/
theorem typ_of {pins : List (Addr × Obj)} {σ : L2.St} {H : Hp} {s : Shared} {x : V} {u t : Value} {M : Model} (I : Inv X pins σ H s) (rx : RelV x u) (ty : TyX X.K H x t) : PySem.W.Looks M s.heap (typeOf u) t := by
  obtain ⟨P, Z, p, _⟩ := kit_of I rx ty
  exact Z.ty M s.heap I.kIn p
/-- nf: the kinds of right hands that are asked second -/
def bEqI (C : Str) (cs : List Str) (nf : List Kd) (m : List W → MH → R W) : W → W → MH → R W := fun x y h => match x with
  | .ref i => match insAt h i, kdW y h with
    | some (C', _), some t => if C' = C ∧ t ∈ nf ∧ t.inC cs = true then m [.ref i, y] h else .stuck
    | _, _ => .stuck
  | _ => .stuck
end
section
variable {X : Cx} {Wx : WX} {f : Addr} {C : Str} {cs : List Str} {nf : List Kd} {m : List W → MH → R W}
theorem os_eqI {k : Nat} (hr : Room k X.A) (hc : ∀ C ∈ cs, OwnC X.K C) (hn : ∀ t ∈ nf, PySem.W.notFirst X.K (He.ga X.K C) (t.v X.K) = true) (cm : CalM X Wx f 2 m)
    (hs : PySem.W.findIn X.K (.ref (He.ga X.K C)) "__eq__" = some (some (.ref f))) (hf : PySem.W.isFn X.K (.ref f) = true) : OpS X Wx (compareOp .Eq) (bEqI C cs nf m) := ⟨fun pins s σ b h x y x' y' v u Q I S r1 r2 rv ru q => by
  unfold bEqI at q
  cases r1 with
  | ref i hi =>
    dsimp only at q
    split at q
    · rename_i C' fs t ei et
      by_cases hC : C' = C ∧ t ∈ nf ∧ t.inC cs = true
      case neg => rw [if_neg hC] at q; exact q.elim
      rw [if_pos hC] at q
      obtain ⟨rfl, h1, h2⟩ := hC
      obtain ⟨dx, ps, h3, _⟩ := S.ins ei
      obtain ⟨mA, O, _⟩ := ins_get I.hok h3
      obtain ⟨od, J, _⟩ := O.look
      obtain ⟨mm, hF⟩ := I.fr
      cases rv
      show wpAny _ _ (richCompare .Eq (.ref (b.at_ i)) u) _ _ _
      refine PySem.W.cmp_K (op := .Eq) hr.units0 hF I.ok.mod.kin J (typ_of I ru (tyX_kd hc S r2 et (Kd.inC_ok h2))) (hn t h1) hs hf ?_
      refine wpAny_mono (cm.here (us := [.ref (b.at_ i), u]) (vs := [.ref (b.at_ i), y']) I (.cons rfl (.cons ru .nil)) S (.cons (.ref i hi) (.cons r2 .nil)) rfl q) (fun w s' hq => ?_) fun _ _ z => z
      obtain ⟨z, H', I', rz, q'⟩ := id hq
      cases z <;> first | (obtain ⟨_, rz⟩ := rz; subst rz; exact hq) | (cases rz; exact hq)
    · exact q.elim
  | _ => exact q.elim⟩
theorem F_ne : PySem.Slot "object" "__ne__" "object.__ne__" := PySem.F.cmp_object.ne
open Builtin in
theorem ne_K {prog : Program} {w : World} {A : Around} {E : Value → Shared → Prop} {s : Shared} {K : PySem.W.Frag} {x C f : Addr} {ox : Obj} {od : Option Obj} {b tb : Value} {Q : Value → Shared → Prop} (hu : A.units + 1 < cLine) (X : K.In s.heap) (I : PySem.W.InstAt s.heap x ox C od)
    (hb : PySem.W.Looks (model prog w) s.heap (typeOf b) tb) (hn : PySem.W.notFirst K C tb = true) (hne : PySem.W.findIn K (.ref C) "__ne__" = some (some (.builtin "object.__ne__"))) (hm : PySem.W.mroIn K C (.type "object") = some true)
    (hs : PySem.W.findIn K (.ref C) "__eq__" = some (some (.ref f))) (hf : PySem.W.isFn K (.ref f) = true)
    (h : wpAny (model prog w) A.in1 (call (.ref f) [.ref x, b]) (fun v s' => ∃ k, v = .bool k ∧ Q (.bool (!k)) s') E s) : wpAny (model prog w) A (richCompare .NotEq (.ref x) b) Q E s := by
  have obj : wpAny (model prog w) A.in1 (Builtin.«object.__ne__» ⟨[.ref x, b], []⟩) (fun r s' => ∃ v, r = .done (.ret v) ∧ (∃ k, v = .bool k) ∧ Q v s') E s := by
    unfold Builtin.«object.__ne__»
    refine wpAny_bind (m := slotArgs "__ne__" 1 _) (wpAny_pure ?_)
    refine wpAny_bind (wpAny_cRoomFor (by show A.units + 1 < cLine; exact hu) ?_)
    refine wpAny_bind (m := callSpecialIfBound? (.ref x) (Str.ofString "__eq__") _) (PySem.W.ifBound_K X I hs hf (wpAny_mono h (fun v s' hv => ?_) fun _ _ z => z))
    obtain ⟨k, rfl, q⟩ := hv
    refine wpAny_bind (m := truthy (.bool k)) (wpAny_truthy_bool ?_)
    exact wpAny_pure ⟨_, rfl, ⟨_, rfl⟩, q⟩
  have one : wpAny (model prog w) A (tryCompare (.ref x) "__ne__" b) (fun r s' => ∃ v, r = some v ∧ Q v s') E s := by
    unfold tryCompare
    have cl : wpAny (model prog w) A (call (.builtin "object.__ne__") [.ref x, b]) (fun v s' => (∃ k, v = .bool k) ∧ Q v s') E s :=
      wpAny_call (codeAny_call_builtin F_ne.plain PySem.F.cmpEntry_ne (PySem.W.check_slot (i := "object.__ne__") (owner := "object") (n := "__ne__") PySem.F.cmpKind_ne PySem.F.cmpSplit_ne (I.type.andThen (PySem.W.looks_mroIn X hm)) (PySem.F.cmpArgs_ne _ _)
        (wpAny_mono obj (fun r s' ⟨v, e1, e2, q⟩ => by subst e1; exact ⟨e2, q⟩) fun _ _ z => z)))
    refine wpAny_bind (m := callSpecialIfBound? (.ref x) (Str.ofString "__ne__") _) (wpAny_mono (Q := fun r s' => ∃ v, r = some v ∧ (∃ k, v = .bool k) ∧ Q v s') ?_ (fun r s' ⟨v, e1, ⟨k, e2⟩, q⟩ => by
      subst e1 e2
      exact wpAny_pure ⟨_, rfl, q⟩) fun _ _ z => z)
    simp only [callSpecialIfBound?, bindSpecialIfBound?]
    refine wpAny_holding (wpAny_bind (wpAny_bind (wpAny_bind (I.type.here ((PySem.W.looks_findIn X hne).here ?_)))))
    simp only [F_ne.bind]
    refine wpAny_bind (wpAny_askSetting (wpAny_ite ?_))
    have fin : wpAny (model prog w) A (call (.builtin "object.__ne__") ([.ref x] ++ [b]) >>= fun v => pure (some v)) (fun r s' => ∃ v, r = some v ∧ (∃ k, v = .bool k) ∧ Q v s') E s := wpAny_bind (wpAny_mono cl (fun v s' q => wpAny_pure ⟨v, rfl, q⟩) fun _ _ z => z)
    split
    · exact wpAny_bind (wpAny_pure (wpAny_pure fin))
    · exact wpAny_tryCatch (wpAny_bind (wpAny_pure (wpAny_pure fin)))
  unfold richCompare
  simp only [oneThing_ref]
  refine wpAny_holding (wpAny_bind (wpAny_cRoomFor (Nat.lt_of_succ_lt hu) ?_))
  refine wpAny_bind (I.type.here (wpAny_bind (hb.here ?_)))
  split
  · rename_i q
    have e : PySem.W.subIn K tb (.ref C) = some false := by
      rcases Bool.or_eq_true_iff.mp hn with e | e
      · rw [beq_iff_eq.mp e] at q; simp at q
      · exact beq_iff_eq.mp e
    refine wpAny_bind ((PySem.W.looks_subIn X e).here ?_)
    simp only [Bool.false_eq_true, if_false]
    refine wpAny_bind (wpAny_mono one (fun r s' z => ?_) fun _ _ e => e)
    obtain ⟨v, rfl, hq⟩ := z
    exact wpAny_pure hq
  · refine wpAny_bind (wpAny_pure ?_)
    simp only [Bool.false_eq_true, if_false]
    refine wpAny_bind (wpAny_mono one (fun r s' z => ?_) fun _ _ e => e)
    obtain ⟨v, rfl, hq⟩ := z
    exact wpAny_pure hq
def bNeI (C : Str) (cs : List Str) (nf : List Kd) (m : List W → MH → R W) : W → W → MH → R W := fun x y h => match x with
  | .ref i => match insAt h i, kdW y h with
    | some (C', _), some t => if C' = C ∧ t ∈ nf ∧ t.inC cs = true then (m [.ref i, y] h).bind fun r h1 => match r with
      | .bl k => .ok (.bl (!k)) h1
      | _ => .stuck else .stuck
    | _, _ => .stuck
  | _ => .stuck
theorem os_neI {k : Nat} (hr : Room k X.A) (hc : ∀ C ∈ cs, OwnC X.K C) (hn : ∀ t ∈ nf, PySem.W.notFirst X.K (He.ga X.K C) (t.v X.K) = true) (cm : CalM X Wx f 2 m) (hne : PySem.W.findIn X.K (.ref (He.ga X.K C)) "__ne__" = some (some (.builtin "object.__ne__")))
    (hm : PySem.W.mroIn X.K (He.ga X.K C) (.type "object") = some true) (hs : PySem.W.findIn X.K (.ref (He.ga X.K C)) "__eq__" = some (some (.ref f))) (hf : PySem.W.isFn X.K (.ref f) = true) : OpS X Wx (compareOp .NotEq) (bNeI C cs nf m) := ⟨fun pins s σ b h x y x' y' v u Q I S r1 r2 rv ru q => by
  unfold bNeI at q
  cases r1 with
  | ref i hi =>
    dsimp only at q
    split at q
    · rename_i C' fs t ei et
      by_cases hC : C' = C ∧ t ∈ nf ∧ t.inC cs = true
      case neg => rw [if_neg hC] at q; exact q.elim
      rw [if_pos hC] at q
      obtain ⟨rfl, h1, h2⟩ := hC
      obtain ⟨dx, ps, h3, _⟩ := S.ins ei
      obtain ⟨mA, O, _⟩ := ins_get I.hok h3
      obtain ⟨od, J, _⟩ := O.look
      cases rv
      show wpAny _ _ (richCompare .NotEq (.ref (b.at_ i)) u) _ _ _
      refine ne_K (by have := hr.units; omega) I.kIn J (typ_of I ru (tyX_kd hc S r2 et (Kd.inC_ok h2))) (hn t h1) hne hm hs hf ?_
      refine wpAny_mono (cm.in1 (us := [.ref (b.at_ i), u]) (vs := [.ref (b.at_ i), y']) I (.cons rfl (.cons ru .nil)) S (.cons (.ref i hi) (.cons r2 .nil)) rfl (Post.bind (rel := Rl X.K) q)) (fun w s' hq => ?_) fun _ _ z => z
      obtain ⟨z, H', I', rz, c1, wz, h1, eH, E1, S1, rw, q'⟩ := hq
      subst eH
      cases rw with
      | bl k =>
        cases rz
        exact ⟨k, rfl, .bl (!k), _, I', rfl, q'.here S1 (.bl _)⟩
      | _ => exact q'.elim
    · exact q.elim
  | _ => exact q.elim⟩
/-- x in y, y an instance with its own __contains__ -/
def bInI (C : Str) (neg : Bool) (m : List W → MH → R W) : W → W → MH → R W := fun x y h => match y with
  | .ref i => match insAt h i with
    | some (C', _) => if C' = C then (m [.ref i, x] h).bind fun r h1 => match r with
      | .bl k => .ok (.bl (if neg then !k else k)) h1
      | _ => .stuck else .stuck
    | none => .stuck
  | _ => .stuck
theorem os_inI (cm : CalM X Wx f 2 m) (hs : PySem.W.findIn X.K (.ref (He.ga X.K C)) "__contains__" = some (some (.ref f))) (hf : PySem.W.isFn X.K (.ref f) = true) : OpS X Wx (compareOp .In) (bInI C false m) := ⟨fun pins s σ b h x y x' y' v u Q I S r1 r2 rv ru q => by
  unfold bInI at q
  cases r2 with
  | ref i hi =>
    dsimp only at q
    split at q
    · rename_i C' fs ei
      by_cases hC : C' = C
      case neg => rw [if_neg hC] at q; exact q.elim
      rw [if_pos hC] at q
      subst hC
      obtain ⟨dx, ps, h3, _⟩ := S.ins ei
      obtain ⟨mA, O, _⟩ := ins_get I.hok h3
      obtain ⟨od, J, _⟩ := O.look
      obtain ⟨mm, hF⟩ := I.fr
      cases ru
      refine PySem.W.in_K hF I.ok.mod.kin J hs hf ?_
      refine wpAny_mono (cm.here (us := [.ref (b.at_ i), v]) (vs := [.ref (b.at_ i), x']) I (.cons rfl (.cons rv .nil)) S (.cons (.ref i hi) (.cons r1 .nil)) rfl (Post.bind (rel := Rl X.K) q)) (fun w s' hq => ?_) fun _ _ z => z
      obtain ⟨z, H', I', rz, c1, wz, h1, eH, E1, S1, rw, q'⟩ := hq
      subst eH
      cases rw with
      | bl k =>
        cases rz
        exact wpAny_truthy_bool ⟨.bl k, _, I', rfl, q'.here S1 (.bl _)⟩
      | _ => exact q'.elim
    · exact q.elim
  | _ => exact q.elim⟩
theorem os_notinI (cm : CalM X Wx f 2 m) (hs : PySem.W.findIn X.K (.ref (He.ga X.K C)) "__contains__" = some (some (.ref f))) (hf : PySem.W.isFn X.K (.ref f) = true) : OpS X Wx (compareOp .NotIn) (bInI C true m) := ⟨fun pins s σ b h x y x' y' v u Q I S r1 r2 rv ru q => by
  unfold bInI at q
  cases r2 with
  | ref i hi =>
    dsimp only at q
    split at q
    · rename_i C' fs ei
      by_cases hC : C' = C
      case neg => rw [if_neg hC] at q; exact q.elim
      rw [if_pos hC] at q
      subst hC
      obtain ⟨dx, ps, h3, _⟩ := S.ins ei
      obtain ⟨mA, O, _⟩ := ins_get I.hok h3
      obtain ⟨od, J, _⟩ := O.look
      obtain ⟨mm, hF⟩ := I.fr
      cases ru
      refine PySem.W.notIn_K hF I.ok.mod.kin J hs hf ?_
      refine wpAny_mono (cm.here (us := [.ref (b.at_ i), v]) (vs := [.ref (b.at_ i), x']) I (.cons rfl (.cons rv .nil)) S (.cons (.ref i hi) (.cons r1 .nil)) rfl (Post.bind (rel := Rl X.K) q)) (fun w s' hq => ?_) fun _ _ z => z
      obtain ⟨z, H', I', rz, c1, wz, h1, eH, E1, S1, rw, q'⟩ := hq
      subst eH
      cases rw with
      | bl k =>
        cases rz
        exact wpAny_truthy_bool ⟨.bl (!k), _, I', rfl, q'.here S1 (.bl _)⟩
      | _ => exact q'.elim
    · exact q.elim
  | _ => exact q.elim⟩
/-- len(x), x an instance -/
def bLenI (C : Str) (m : List W → MH → R W) (ws : List W) (h : MH) : R W := match ws with
  | [.ref i] => match insAt h i with
    | some (C', _) => if C' = C then (m [.ref i] h).bind fun r h1 => match r with
      | .int n => if 0 ≤ n ∧ n < 2 ^ 63 then .ok (.int n) h1 else .stuck
      | _ => .stuck else .stuck
    | none => .stuck
  | _ => .stuck
theorem cs_lenI (cm : CalM X Wx f 1 m) (hs : PySem.W.findIn X.K (.ref (He.ga X.K C)) "__len__" = some (some (.ref f))) (hf : PySem.W.isFn X.K (.ref f) = true) : CallS X Wx (.builtin "len") (bLenI C m) := ⟨fun pins s σ b h ws vs us Q I S r rv q => by
  unfold bLenI at q
  split at q
  · rename_i i
    obtain ⟨y, rfl, r1⟩ := rls1 r
    obtain ⟨u, rfl, ru⟩ := rv.one
    cases r1 with
    | ref _ hi =>
      split at q
      · rename_i C' fs ei
        by_cases hC : C' = C
        case neg => rw [if_neg hC] at q; exact q.elim
        rw [if_pos hC] at q
        subst hC
        obtain ⟨dx, ps, h3, _⟩ := S.ins ei
        obtain ⟨mA, O, _⟩ := ins_get I.hok h3
        obtain ⟨od, J, _⟩ := O.look
        obtain ⟨mm, hF⟩ := I.fr
        cases ru
        refine PySem.W.len_K hF I.ok.mod.kin J hs hf ?_
        refine wpAny_mono (cm.in1 (us := [.ref (b.at_ i)]) (vs := [.ref (b.at_ i)]) I (.cons rfl .nil) S (.cons (.ref i hi) .nil) rfl (Post.bind (rel := Rl X.K) q)) (fun w s' hq => ?_) fun _ _ z => z
        obtain ⟨z, H', I', rz, c1, wz, h1, eH, E1, S1, rw, q'⟩ := hq
        subst eH
        cases rw with
        | int k =>
          obtain ⟨t, rfl⟩ := rz
          dsimp only at q'
          by_cases hk : 0 ≤ k ∧ k < 2 ^ 63
          · rw [if_pos hk] at q'
            exact ⟨hk, .int k, _, I'.tok _, ⟨_, rfl⟩, q'.here S1 (.int _)⟩
          · rw [if_neg hk] at q'; exact q'.elim
        | _ => exact q'.elim
      · exact q.elim
  · exact q.elim⟩
end
end PM
/-! Sm19: dicts; methods of built-in types. -/
namespace PM
open PySem PySem.Spec L2
open PyProof.Rows hiding St
/-- one of two readings -/
theorem se_or2 {X : Cx} {Wx : WX} {e : Expr} {m n k : EM} (a : SE X Wx e m) (c : SE X Wx e n) (h : ∀ σ g, k σ g = m σ g ∨ k σ g = n σ g ∨ k σ g = .stuck) : SE X Wx e k := ⟨⟨fun pins s σ H Q I q => by
  obtain ⟨b, g, σm, e, S, l, q⟩ := q
  rcases h σm g with z | z | z
  · exact a.pe.run pins s σ H Q I ⟨b, g, σm, e, S, l, by rw [← z]; exact q⟩
  · exact c.pe.run pins s σ H Q I ⟨b, g, σm, e, S, l, by rw [← z]; exact q⟩
  · rw [z] at q; exact q.elim⟩⟩
theorem ss_or2 {X : Cx} {Wx : WX} {st : Stmt} {m n k : SM} (a : SS X Wx st m) (c : SS X Wx st n) (h : ∀ σ g, k σ g = m σ g ∨ k σ g = n σ g ∨ k σ g = .stuck) : SS X Wx st k := ⟨⟨fun pins s σ H D I q => by
  obtain ⟨b, g, σm, e, S, l, q⟩ := q
  rcases h σm g with z | z | z
  · exact a.ps.run pins s σ H D I ⟨b, g, σm, e, S, l, by rw [← z]; exact q⟩
  · exact c.ps.run pins s σ H D I ⟨b, g, σm, e, S, l, by rw [← z]; exact q⟩
  · rw [z] at q; exact q.elim⟩⟩
/-- the dict at i, to read -/
def dctAt (h : MH) (i : Nat) : Option (List (Key × W)) := match h[i]? with
  | some (.dct kvs) => some kvs
  | some (.lck kvs) => some kvs
  | _ => none
theorem Sim.dic {K : PySem.W.Frag} {b : Bs} {h : MH} (S : Sim K b h) {i : Nat} {kvs : List (Key × W)} (e : dctAt h i = some kvs) : ∃ ps, Rd b.H (b.at_ i) (.dK ps) ∧ Rlk K b kvs ps ∧ i < b.n := by
  unfold dctAt at e
  split at e
  · rename_i k q; cases e; obtain ⟨ps, h1, r⟩ := S.ob _ _ q; exact ⟨ps, .inl h1, r, S.lt q⟩
  · rename_i k q; cases e; obtain ⟨o, ps, h1, r⟩ := S.ob _ _ q; exact ⟨ps, .inr ⟨o, h1⟩, r, S.lt q⟩
  · cases e
/-! ### reading and writing -/
/-- x[k], a dict -/
def bDix : W → W → MH → R W := fun x y h => match x with
  | .ref i => match dctAt h i, keyOf y with
    | some kvs, some k => match valM kvs k with
      | some w => .ok w h
      | none => .stuck
    | _, _ => .stuck
  | _ => .stuck
def bDin (neg : Bool) : W → W → MH → R W := fun x y h => match y with
  | .ref i => match dctAt h i, keyOf x with
    | some kvs, some k => .ok (.bl (if neg then !(valM kvs k).isSome else (valM kvs k).isSome)) h
    | _, _ => .stuck
  | _ => .stuck
section
variable {X : Cx} {Wx : WX} {k : Nat} {a c e o i value : Expr} {ma mc me mo mi mv : EM} {pos pos' tpos : Pos}
theorem dget_of {K : PySem.W.Frag} {b : Bs} {h : MH} {i : Nat} {kvs : List (Key × W)} {y : W} {v : V} {k : Key} (S : Sim K b h) (e : dctAt h i = some kvs) (r : Rl K b y v) (ek : keyOf y = some k) :
    ∃ o, DGet b.H (b.at_ i) v o ∧ (match valM kvs k with
      | some w => ∃ v, o = some v ∧ Rl K b w v
      | none => o = none) := by
  obtain ⟨ps, rd, rk, _⟩ := S.dic e
  have := keyOf_ok ek r
  refine ⟨valV ps k, .inl ⟨ps, k, rd, this, rfl⟩, ?_⟩
  exact rk.val k
theorem se_dix (hr : Room k X.A) (ha : SE X Wx a ma) (hc : SE X Wx c mc) (hs : NoSl c := by exact fun _ _ => rfl) : SE X Wx (.Subscript a c pos) (e2 bDix ma mc) := by
  refine ⟨pe_imp (pe_dget (by have := hr.units; omega) ha.pe hc.pe hs) fun σ H Q ⟨b, h, σm, eH, S, l, q⟩ => ?_⟩
  subst eH
  refine ⟨b, h, σm, rfl, S, l, (Post.bind (rel := Rl X.K) q).mono fun x' H1 ⟨c1, x, h1, eH, E1, S1, r1, q1⟩ => ?_⟩
  subst eH
  refine ⟨c1, h1, σm, rfl, S1, l.ext E1, (Post.bind (rel := Rl X.K) q1).mono fun y' H2 ⟨c2, y, h2, eH, E2, S2, r2, q2⟩ => ?_⟩
  subst eH
  unfold bDix at q2
  cases r1 with
  | ref i hi =>
    dsimp only at q2
    split at q2
    · rename_i kvs k ed ek
      obtain ⟨o, g, m⟩ := dget_of S2 ed r2 ek
      cases ev : valM kvs k with
      | none => rw [ev] at q2; exact q2.elim
      | some w =>
        rw [ev] at q2 m
        obtain ⟨v, rfl, rv⟩ := m
        refine ⟨_, v, rfl, ?_, q2.here S2 rv⟩
        rw [E2.ix i hi] at g
        exact g
    · exact q2.elim
  | _ => exact q2.elim
theorem os_din (hr : Room k X.A) : OpS X Wx (compareOp .In) (bDin false) := ⟨fun pins s σ b h x y x' y' v u Q I S r1 r2 rv ru q => by
  unfold bDin at q
  cases r2 with
  | ref i hi =>
    dsimp only at q
    split at q
    · rename_i kvs k ed ek
      obtain ⟨o, g, m⟩ := dget_of S ed r1 ek
      cases ru
      refine d_in (by have := hr.units; omega) I g rv fun s' I' => ⟨.bl o.isSome, b.H, I', rfl, ?_⟩
      have eo : o.isSome = (valM kvs k).isSome := by
        cases ev : valM kvs k with
        | none => rw [ev] at m; rw [m]; rfl
        | some w => rw [ev] at m; obtain ⟨v, e1, _⟩ := m; rw [e1]; rfl
      rw [eo]
      exact q.here S (.bl _)
    · exact q.elim
  | _ => exact q.elim⟩
theorem os_dnotin (hr : Room k X.A) : OpS X Wx (compareOp .NotIn) (bDin true) := ⟨fun pins s σ b h x y x' y' v u Q I S r1 r2 rv ru q => by
  unfold bDin at q
  cases r2 with
  | ref i hi =>
    dsimp only at q
    split at q
    · rename_i kvs k ed ek
      obtain ⟨o, g, m⟩ := dget_of S ed r1 ek
      cases ru
      refine d_notIn (by have := hr.units; omega) I g rv fun s' I' => ⟨.bl (!o.isSome), b.H, I', rfl, ?_⟩
      have eo : o.isSome = (valM kvs k).isSome := by
        cases ev : valM kvs k with
        | none => rw [ev] at m; rw [m]; rfl
        | some w => rw [ev] at m; obtain ⟨v, e1, _⟩ := m; rw [e1]; rfl
      rw [eo]
      exact q.here S (.bl _)
    · exact q.elim
  | _ => exact q.elim⟩
/-- o[i] = v, a dict -/
def sDput (mo mi mv : EM) : SM := fun σ h => (mv σ h).st σ fun v h1 => (mo σ h1).st σ fun o h2 => (mi σ h2).st σ fun i h3 => match o, keyOf i with
  | .ref j, some k => match h3[j]? with
    | some (.dct kvs) => if kvs.length < sizeLine then .nx σ (h3.set j (.dct (putM kvs k v))) else .stuck
    | _ => .stuck
  | _, _ => .stuck
theorem ss_dput (hr : Room k X.A) (ho : SE X Wx o mo) (hi : SE X Wx i mi) (hv : SE X Wx value mv) (hs : swapsWith value (some (.Subscript o i pos')) pos.line X.env = pure false := by rfl) : SS X Wx (.Assign [.Subscript o i pos'] value pos) (sDput mo mi mv) := by
  refine ⟨ps_imp (ps_dput (by have := hr.units; omega) ho.pe hi.pe hv.pe hs) fun D σ H ⟨b, h, σm, eH, S, l, q⟩ => ?_⟩
  subst eH
  refine ⟨b, h, σm, rfl, S, l, (PostS.st (rel := Rl X.K) l q).mono fun y' H1 ⟨c1, y, h1, eH, E1, S1, r1, q1⟩ => ?_⟩
  subst eH
  refine ⟨c1, h1, σm, rfl, S1, l.ext E1, (PostS.st (rel := Rl X.K) (l.ext E1) q1).mono fun x' H2 ⟨c2, x, h2, eH, E2, S2, r2, q2⟩ => ?_⟩
  subst eH
  refine ⟨c2, h2, σm, rfl, S2, (l.ext E1).ext E2, (PostS.st (rel := Rl X.K) ((l.ext E1).ext E2) q2).mono fun z' H3 ⟨c3, z, h3, eH, E3, S3, r3, q3⟩ => ?_⟩
  subst eH
  cases r2 with
  | ref j hj =>
    cases ek : keyOf z with
    | none => rw [ek] at q3; exact q3.elim
    | some k =>
      rw [ek] at q3
      dsimp only at q3
      split at q3
      · rename_i kvs eo
        by_cases hz : kvs.length < sizeLine
        case neg => rw [if_neg hz] at q3; exact q3.elim
        rw [if_pos hz] at q3
        obtain ⟨ps, h4, rk, _⟩ := S3.dict eo
        have hkey := keyOf_ok ek r3
        have rw3 := (r1.ext E2).ext E3
        have ex : PM.Ext X.K c3 (c3.put j (.dK (putK ps k y'))) := Ext.put (S3.ob j _ eo) rfl
        refine ⟨c3.at_ j, upd c3.H (c3.at_ j) (.dK (putK ps k y')), by rw [E3.ix j hj], .inl ⟨ps, k, h4, hkey, by rw [rk.len]; exact hz, rfl⟩, ?_⟩
        exact q3 (c3.put j (.dK (putK ps k y'))) _ ex (S3.put eo rfl rfl ⟨_, upd_same, (rk.put k rw3).ext ex⟩) ((((l.ext E1).ext E2).ext E3).ext ex)
      · exact q3.elim
  | _ => exact q3.elim
/-- del o[i], a dict -/
def sDdel (mo mi : EM) : SM := fun σ h => (mo σ h).st σ fun o h2 => (mi σ h2).st σ fun i h3 => match o, keyOf i with
  | .ref j, some k => match h3[j]? with
    | some (.dct kvs) => if (valM kvs k).isSome = true then .nx σ (h3.set j (.dct (dropM kvs k))) else .stuck
    | _ => .stuck
  | _, _ => .stuck
theorem ss_ddel (ho : SE X Wx o mo) (hi : SE X Wx i mi) : SS X Wx (.Delete [.Subscript o i tpos] pos) (sDdel mo mi) := by
  refine ⟨ps_imp (ps_ddel ho.pe hi.pe) fun D σ H ⟨b, h, σm, eH, S, l, q⟩ => ?_⟩
  subst eH
  refine ⟨b, h, σm, rfl, S, l, (PostS.st (rel := Rl X.K) l q).mono fun x' H2 ⟨c2, x, h2, eH, E2, S2, r2, q2⟩ => ?_⟩
  subst eH
  refine ⟨c2, h2, σm, rfl, S2, l.ext E2, (PostS.st (rel := Rl X.K) (l.ext E2) q2).mono fun z' H3 ⟨c3, z, h3, eH, E3, S3, r3, q3⟩ => ?_⟩
  subst eH
  cases r2 with
  | ref j hj =>
    cases ek : keyOf z with
    | none => rw [ek] at q3; exact q3.elim
    | some k =>
      rw [ek] at q3
      dsimp only at q3
      split at q3
      · rename_i kvs eo
        by_cases hz : (valM kvs k).isSome = true
        case neg => rw [if_neg hz] at q3; exact q3.elim
        rw [if_pos hz] at q3
        obtain ⟨ps, h4, rk, _⟩ := S3.dict eo
        have hkey := keyOf_ok ek r3
        have ex : PM.Ext X.K c3 (c3.put j (.dK (dropK ps k))) := Ext.put (S3.ob j _ eo) rfl
        have hv : (valV ps k).isSome = true := by
          have m := rk.val k
          obtain ⟨w, ew⟩ := Option.isSome_iff_exists.mp hz
          rw [ew] at m
          obtain ⟨v, e1, _⟩ := m
          rw [e1]; rfl
        refine ⟨c3.at_ j, ps, k, by rw [E3.ix j hj], h4, hkey, hv, ?_⟩
        exact q3 (c3.put j (.dK (dropK ps k))) _ ex (S3.put eo rfl rfl ⟨_, upd_same, (rk.drop k).ext ex⟩) (((l.ext E2).ext E3).ext ex)
      · exact q3.elim
  | _ => exact q3.elim
end
end PM
/-! Sm20: methods of lists, dicts, texts. -/
namespace PM
open PySem PySem.Spec L2
open PyProof.Rows hiding St
def bty (w : W) (h : MH) : Option String := match w with
  | .str _ => some "str"
  | .ref i => match lstAt h i with
    | some _ => some "list"
    | none => match dctAt h i with
      | some _ => some "dict"
      | none => none
  | _ => none
section
variable {X : Cx} {Wx : WX}
theorem bty_is {pins : List (Addr × Obj)} {σ : L2.St} {b : Bs} {h : MH} {s : Shared} {T : String} {w : W} {x : V} {v : Value} (I : Inv X pins σ b.H s) (S : Sim X.K b h) (r1 : Rl X.K b w x) (r : RelV x v) (ty : bty w h = some T) :
    s.TypeIs v T ∧ ∀ a, v = .ref a → ∃ ob, s.heap.get? a = some ob ∧ ob.dict = none := by
  unfold bty at ty
  cases r1 with
  | str z => cases ty; exact tyV_is I r rfl
  | ref i hi =>
    dsimp only at ty
    split at ty
    · rename_i xs e
      cases ty
      obtain ⟨vs, q, _⟩ := S.list e
      exact tyV_is I r (.inl ⟨rfl, vs, q⟩)
    · split at ty
      · rename_i kvs e
        cases ty
        obtain ⟨ps, q, _⟩ := S.dic e
        cases r
        obtain ⟨h1, h2, _⟩ := isD_at I (.inl ⟨ps, q⟩)
        exact ⟨h1, h2⟩
      · cases ty
  | _ => cases ty
/-- o.name(..) of a built-in type -/
def eBM (T : String) (m : List W → MH → R W) (mo : EM) (n : AM) : EM := fun σ h => (mo σ h).bind fun x h1 => if bty x h1 = some T then (n σ h1).bind fun ws h2 => m (x :: ws) h2 else .stuck
variable {o e : Expr} {es : List Expr} {mo : EM} {n : AM} {name : Str} {apos cpos : Pos} {T id : String} {m : List W → MH → R W}
theorem se_bm0 (pa : PlainAttrs T) (slot : Slot T name id) (hty : typeOf (.builtin id) = pure (.type "method_descriptor")) (hm : CallS X Wx (.builtin id) m) (ho : SE X Wx o mo)
    (hbase : attributeBase o name X.env (eval o X.env) = eval o X.env := by rfl) (hline : (apos.endLine == cpos.line) = true := by rfl) : SE X Wx (.Call (.Attribute o name apos) [] [] cpos) (eBM T m mo aNil) := by
  refine ⟨⟨fun pins s σ H Q I q => ?_⟩⟩
  obtain ⟨b, h, σm, rfl, S, l, q⟩ := q
  refine wpAny_Call_method0_late hbase hline (thn (ho.pe.run pins s σ _ _ I ⟨b, h, σm, rfl, S, l, Post.bind (rel := Rl X.K) q⟩) fun v s1 ⟨x, H1, I1, r1, c1, w, h1, e1, E1, S1, rw, q1⟩ => ?_)
  subst e1
  by_cases ty : bty w h1 = some T
  case neg => rw [if_neg ty] at q1; exact q1.elim
  rw [if_pos ty] at q1
  obtain ⟨h1', h2'⟩ := bty_is I1 S1 rw r1 ty
  exact ⟨T, id, pa, slot, hty, h1', h2', Calls.callWith_builtin rfl (PySem.evalArgs_none (hm.run pins s1 σ c1 h1 [w] [x] [v] Q I1 S1 (.cons rw .nil) (.cons r1 .nil) q1))⟩
theorem se_bm (pa : PlainAttrs T) (slot : Slot T name id) (hty : typeOf (.builtin id) = pure (.type "method_descriptor")) (hm : CallS X Wx (.builtin id) m) (ho : SE X Wx o mo) (ha : SA X Wx (e :: es) n)
    (hbase : attributeBase o name X.env (eval o X.env) = eval o X.env := by rfl)
    (hfew : ((backTo cpos (starEach (e :: es) X.env)).all (fun x => !x.1) && (backToKw cpos (keywordEach [] X.env)).all (fun x => x.1.isSome)
      && decide ((e :: es).length + ([] : List Keyword).length + (if ([] : List Keyword).isEmpty then 0 else 1) < 30)) = true := by rfl)
    (hline : (apos.endLine == cpos.line) = true := by rfl) (hs : starEach (e :: es) X.env = (false, eval e X.env) :: starEach es X.env := by rfl) (hplain : (backTo cpos (starEach es X.env)).any (·.1) = false := by rfl) :
    SE X Wx (.Call (.Attribute o name apos) (e :: es) [] cpos) (eBM T m mo n) := by
  refine ⟨⟨fun pins s σ H Q I q => ?_⟩⟩
  obtain ⟨b, h, σm, rfl, S, l, q⟩ := q
  refine wpAny_Call_method_late hbase hfew hline rfl (thn (ho.pe.run pins s σ _ _ I ⟨b, h, σm, rfl, S, l, Post.bind (rel := Rl X.K) q⟩) fun v s1 ⟨x, H1, I1, r1, c1, w, h1, e1, E1, S1, rw, q1⟩ => ?_)
  subst e1
  by_cases ty : bty w h1 = some T
  case neg => rw [if_neg ty] at q1; exact q1.elim
  rw [if_pos ty] at q1
  obtain ⟨h1', h2'⟩ := bty_is I1 S1 rw r1 ty
  refine ⟨T, id, pa, slot, hty, h1', h2', ?_⟩
  have hA := ha.run cpos I1 S1 (l.ext E1) (Post.bind q1)
  rw [hs] at hA ⊢
  refine Calls.callWith_builtin (by show (false || (backTo cpos (starEach es X.env)).any (·.1)) = false; rw [hplain] <;> rfl) (Calls.evalArgs_plain ?_)
  refine thn hA fun us s2 ⟨vs, H2, I2, r2, c2, ws, h2, e2, E2, S2, l2, q2⟩ => ?_
  subst e2
  exact hm.run pins s2 σ c2 h2 (w :: ws) (x :: vs) (v :: us) Q I2 S2 (.cons (rw.ext E2) l2) (.cons r1 r2) q2
theorem CallS.mt {r : V → List V → Hp → VK → Prop} (hm : MtM X id r)
    (k : ∀ (σ : L2.St) (b : Bs) (h : MH) (ws : List W) (vs : List V) (Q : VK), Sim X.K b h → Rls X.K b ws vs → Post X.K (Rl X.K) (fun c d H' => Wx c d σ H') b Q (m ws h) → ∃ v vt, vs = v :: vt ∧ r v vt b.H Q) : CallS X Wx (.builtin id) m :=
  ⟨fun pins s σ b h ws vs us Q I S r rv q => by
    obtain ⟨v, vt, rfl, z⟩ := k σ b h ws vs Q S r q
    cases rv with
    | cons r1 r2 => exact hm pins s σ b.H v vt _ _ Q I r1 r2 z⟩
theorem Sim.putL2 {K : PySem.W.Frag} {b : Bs} {h : MH} (S : Sim K b h) {i : Nat} {xs ys : List W} {vs : List V} (e : mutAt h i = some xs) (r : Rls K b ys vs) :
    PM.Ext K b (b.put i (.lst vs)) ∧ Sim K (b.put i (.lst vs)) (h.set i (.lst ys)) := by
  have ex : PM.Ext K b (b.put i (.lst vs)) := Ext.put (S.ob i _ (mutAt_eq e)) rfl
  exact ⟨ex, S.put (mutAt_eq e) rfl rfl ⟨_, upd_same, r.ext ex⟩⟩
/-! ### lists -/
def bApp (ws : List W) (h : MH) : R W := match ws with
  | [.ref i, y] => match mutAt h i with
    | some xs => if xs.length < sizeLine then .ok .non (h.set i (.lst (xs ++ [y]))) else .stuck
    | none => .stuck
  | _ => .stuck
theorem cs_append : CallS X Wx (.builtin "list.append") bApp := .mt mt_append fun σ b h ws vs Q S r q => by
  unfold bApp at q
  split at q
  · rename_i i y
    cases r with
    | cons r1 rr => cases rr with
      | cons r2 rr => cases rr; cases r1 with
        | ref _ hi =>
          split at q
          · rename_i xs e
            obtain ⟨us, h1, rx, _⟩ := S.mut e
            by_cases hz : xs.length < sizeLine
            case neg => rw [if_neg hz] at q; exact q.elim
            rw [if_pos hz] at q
            obtain ⟨ex, S2⟩ := S.putL2 e (rx.append (.cons r2 .nil))
            exact ⟨_, _, rfl, _, us, _, rfl, rfl, h1, by rw [← rx.length]; exact hz, q _ _ ex S2 .non⟩
          · exact q.elim
  · exact q.elim
def bExt (ws : List W) (h : MH) : R W := match ws with
  | [.ref i, .ref j] => match mutAt h i, mutAt h j with
    | some xs, some ys => if xs.length + ys.length ≤ sizeLine then .ok .non (h.set i (.lst (xs ++ ys))) else .stuck
    | _, _ => .stuck
  | _ => .stuck
theorem cs_extend : CallS X Wx (.builtin "list.extend") bExt := .mt mt_extend fun σ b h ws vs Q S r q => by
  unfold bExt at q
  split at q
  · rename_i i j
    cases r with
    | cons r1 rr => cases rr with
      | cons r2 rr => cases rr; cases r1 with
        | ref _ hi => cases r2 with
          | ref _ hj =>
            split at q
            · rename_i xs ys e e'
              obtain ⟨us, h1, rx, _⟩ := S.mut e
              obtain ⟨us', h1', ry, _⟩ := S.mut e'
              by_cases hz : xs.length + ys.length ≤ sizeLine
              case neg => rw [if_neg hz] at q; exact q.elim
              rw [if_pos hz] at q
              obtain ⟨ex, S2⟩ := S.putL2 e (rx.append ry)
              exact ⟨_, _, rfl, _, _, us, us', rfl, rfl, h1, h1', by rw [← rx.length, ← ry.length]; exact hz, q _ _ ex S2 .non⟩
            · exact q.elim
  · exact q.elim
/-- l.pop(), l.pop(k) -/
def bPop (ws : List W) (h : MH) : R W := match ws with
  | [.ref i] => match mutAt h i with
    | some xs => match xs[xs.length - 1]? with
      | some y => .ok y (h.set i (.lst xs.dropLast))
      | none => .stuck
    | none => .stuck
  | [.ref i, .int k] => match mutAt h i with
    | some xs => match ixN xs.length k with
      | some n => match xs[n]? with
        | some y => .ok y (h.set i (.lst (xs.eraseIdx n)))
        | none => .stuck
      | none => .stuck
    | none => .stuck
  | _ => .stuck
theorem Rls.dropLast {K : PySem.W.Frag} {b : Bs} : ∀ {ws : List W} {vs : List V}, Rls K b ws vs → Rls K b ws.dropLast vs.dropLast
  | _, _, .nil => .nil
  | _, _, .cons _ .nil => .nil
  | _, _, .cons r (.cons r2 t) => .cons r (Rls.dropLast (.cons r2 t))
theorem Rls.eraseIdx {K : PySem.W.Frag} {b : Bs} : ∀ {ws : List W} {vs : List V} (i : Nat), Rls K b ws vs → Rls K b (ws.eraseIdx i) (vs.eraseIdx i)
  | _, _, _, .nil => .nil
  | _, _, 0, .cons _ t => t
  | _, _, i + 1, .cons r t => .cons r (Rls.eraseIdx i t)
theorem cs_pop : CallS X Wx (.builtin "list.pop") bPop := ⟨fun pins s σ b h ws vs us Q I S r rv q => by
  unfold bPop at q
  split at q
  · rename_i i
    cases r with
    | cons r1 rr => cases rr; cases r1 with
      | ref _ hi =>
        split at q
        · rename_i xs e
          split at q
          · rename_i y ey
            obtain ⟨us', h1, rx, _⟩ := S.mut e
            obtain ⟨v, ev, r2⟩ := rx.get ey
            obtain ⟨ex, S2⟩ := S.putL2 e rx.dropLast
            cases rv with
            | cons q1 q2 =>
              exact mt_pop pins s σ b.H _ _ _ _ Q I q1 q2 ⟨_, us', v, rfl, rfl, h1, by rw [← rx.length]; exact ev, q _ _ ex S2 (r2.ext ex)⟩
          · exact q.elim
        · exact q.elim
  · rename_i i k
    cases r with
    | cons r1 rr => cases rr with
      | cons r2 rr => cases rr; cases r2; cases r1 with
        | ref _ hi =>
          split at q
          · rename_i xs e
            split at q
            · rename_i n en
              split at q
              · rename_i y ey
                obtain ⟨us', h1, rx, _⟩ := S.mut e
                obtain ⟨v, ev, r2⟩ := rx.get ey
                obtain ⟨ex, S2⟩ := S.putL2 e (rx.eraseIdx n)
                obtain ⟨e1, e2, e3, e4⟩ := ixN_seq en
                have hz : xs.length ≤ sizeLine := by
                  have := (I.lstM h1).1
                  rw [rx.length]; exact this
                have hl := line63
                cases rv with
                | cons q1 q2 =>
                  exact mt_popAt pins s σ b.H _ _ _ _ Q I q1 q2 ⟨_, us', k, n, v, rfl, rfl, h1, by omega, by omega, by rw [← rx.length]; exact e1, ev, q _ _ ex S2 (r2.ext ex)⟩
              · exact q.elim
            · exact q.elim
          · exact q.elim
  · exact q.elim⟩
def bClrL (ws : List W) (h : MH) : R W := match ws with
  | [.ref i] => match mutAt h i with
    | some xs => .ok .non (h.set i (.lst []))
    | none => .stuck
  | _ => .stuck
theorem cs_clearL : CallS X Wx (.builtin "list.clear") bClrL := .mt mt_clear fun σ b h ws vs Q S r q => by
  unfold bClrL at q
  split at q
  · rename_i i
    cases r with
    | cons r1 rr => cases rr; cases r1 with
      | ref _ hi =>
        split at q
        · rename_i xs e
          obtain ⟨us, h1, rx, _⟩ := S.mut e
          obtain ⟨ex, S2⟩ := S.putL2 e (ys := []) .nil
          exact ⟨_, _, rfl, _, us, rfl, rfl, h1, q _ _ ex S2 .non⟩
        · exact q.elim
  · exact q.elim
end
end PM
/-! Sm21: methods of dicts, list(), dict(), sorted(). -/
namespace PM
open PySem PySem.Spec L2
open PyProof.Rows hiding St
section
variable {X : Cx} {Wx : WX}
/-- d.get(k), d.get(k, x) -/
def bDget (ws : List W) (h : MH) : R W := match ws with
  | [.ref i, y] => match dctAt h i, keyOf y with
    | some kvs, some k => .ok ((valM kvs k).getD .non) h
    | _, _ => .stuck
  | [.ref i, y, z] => match dctAt h i, keyOf y with
    | some kvs, some k => .ok ((valM kvs k).getD z) h
    | _, _ => .stuck
  | _ => .stuck
theorem cs_dget {k : Nat} (hr : Room k X.A) : CallS X Wx (.builtin "dict.get") bDget := ⟨fun pins s σ b h ws vs us Q I S r rv q => by
  unfold bDget at q
  split at q
  · rename_i i y
    cases r with
    | cons r1 rr => cases rr with
      | cons r2 rr => cases rr; cases rv with
        | cons v1 rv => cases rv with
          | cons v2 rv => cases rv; cases r1 with
            | ref _ hi =>
              split at q
              · rename_i kvs k ed ek
                obtain ⟨o, g, m⟩ := dget_of S ed r2 ek
                cases v1
                refine d_get1 (by have := hr.units; omega) I g v2 fun w' s' I' rw' => ⟨_, b.H, I', rw', q.here S ?_⟩
                cases ev : valM kvs k with
                | none => rw [ev] at m; rw [m]; exact .non
                | some w => rw [ev] at m; obtain ⟨v, e1, r3⟩ := m; rw [e1]; exact r3
              · exact q.elim
  · rename_i i y z
    cases r with
    | cons r1 rr => cases rr with
      | cons r2 rr => cases rr with
        | cons r3 rr => cases rr; cases rv with
          | cons v1 rv => cases rv with
            | cons v2 rv => cases rv with
              | cons v3 rv => cases rv; cases r1 with
                | ref _ hi =>
                  split at q
                  · rename_i kvs k ed ek
                    obtain ⟨o, g, m⟩ := dget_of S ed r2 ek
                    cases v1
                    refine d_get2 (by have := hr.units; omega) I g v2 v3 fun w' s' I' rw' => ⟨_, b.H, I', rw', q.here S ?_⟩
                    cases ev : valM kvs k with
                    | none => rw [ev] at m; rw [m]; exact r3
                    | some w => rw [ev] at m; obtain ⟨v, e1, r4⟩ := m; rw [e1]; exact r4
                  · exact q.elim
  · exact q.elim⟩
/-- d.pop(k), d.pop(k, x) -/
def bDpop (ws : List W) (h : MH) : R W := match ws with
  | [.ref i, y] => match h[i]?, keyOf y with
    | some (.dct kvs), some k => match valM kvs k with
      | some w => .ok w (h.set i (.dct (dropM kvs k)))
      | none => .stuck
    | _, _ => .stuck
  | [.ref i, y, z] => match h[i]?, keyOf y with
    | some (.dct kvs), some k => match valM kvs k with
      | some w => .ok w (h.set i (.dct (dropM kvs k)))
      | none => .ok z h
    | _, _ => .stuck
  | _ => .stuck
theorem cs_dpop : CallS X Wx (.builtin "dict.pop") bDpop := ⟨fun pins s σ b h ws vs us Q I S r rv q => by
  unfold bDpop at q
  split at q
  · rename_i i y
    cases r with
    | cons r1 rr => cases rr with
      | cons r2 rr => cases rr; cases rv with
        | cons v1 rv => cases rv with
          | cons v2 rv => cases rv; cases r1 with
            | ref _ hi =>
              split at q
              · rename_i kvs k ed ek
                obtain ⟨ps, h4, rk, _⟩ := S.dict ed
                have m := rk.val k
                have hk := keyOf_ok ek r2
                cases v1
                cases ev : valM kvs k with
                | none => rw [ev] at q; exact q.elim
                | some w =>
                  rw [ev] at q m
                  obtain ⟨v, e1, r3⟩ := m
                  obtain ⟨ex, S2⟩ := S.putD ed (rk.drop k)
                  subst hk
                  exact d_pop I h4 v2 e1 (.inl rfl) fun w' s' I' rw' => ⟨v, _, I', rw', q _ _ ex S2 (r3.ext ex)⟩
              · exact q.elim
  · rename_i i y z
    cases r with
    | cons r1 rr => cases rr with
      | cons r2 rr => cases rr with
        | cons r3 rr => cases rr; cases rv with
          | cons v1 rv => cases rv with
            | cons v2 rv => cases rv with
              | cons v3 rv => cases rv; cases r1 with
                | ref _ hi =>
                  split at q
                  · rename_i kvs k ed ek
                    obtain ⟨ps, h4, rk, _⟩ := S.dict ed
                    have m := rk.val k
                    have hk := keyOf_ok ek r2
                    cases v1
                    subst hk
                    cases ev : valM kvs k with
                    | none =>
                      rw [ev] at q m
                      exact d_popD I h4 v2 m fun s' I' => ⟨_, b.H, I', v3, q.here S r3⟩
                    | some w =>
                      rw [ev] at q m
                      obtain ⟨v, e1, r4⟩ := m
                      obtain ⟨ex, S2⟩ := S.putD ed (rk.drop k)
                      exact d_pop I h4 v2 e1 (.inr ⟨_, rfl⟩) fun w' s' I' rw' => ⟨v, _, I', rw', q _ _ ex S2 (r4.ext ex)⟩
                  · exact q.elim
  · exact q.elim⟩
def bDclr (ws : List W) (h : MH) : R W := match ws with
  | [.ref i] => match h[i]? with
    | some (.dct _) => .ok .non (h.set i (.dct []))
    | _ => .stuck
  | _ => .stuck
theorem cs_dclear : CallS X Wx (.builtin "dict.clear") bDclr := .mt mtd_clear fun σ b h ws vs Q S r q => by
  unfold bDclr at q
  split at q
  · rename_i i
    cases r with
    | cons r1 rr => cases rr; cases r1 with
      | ref _ hi =>
        split at q
        · rename_i kvs ed
          obtain ⟨ps, h4, rk, _⟩ := S.dict ed
          obtain ⟨ex, S2⟩ := S.putD ed (kvs' := []) .nil
          exact ⟨_, _, rfl, _, ps, rfl, rfl, h4, q _ _ ex S2 .non⟩
        · exact q.elim
  · exact q.elim
/-- d.update(e), another dict -/
theorem KV_merged {ps qs : List (Key × V)} {vs rs : List (Key × Value)} (r : KV ps vs) (t : KV qs rs) : KV (mergeK ps qs) (merged vs rs) := KV.merge t r
def bDupd (ws : List W) (h : MH) : R W := match ws with
  | [.ref i, .ref j] => if i = j then .stuck else match h[i]?, h[j]? with
    | some (.dct kvs), some (.dct more) => if kvs.length + more.length ≤ sizeLine then .ok .non (h.set i (.dct (mergeM kvs more))) else .stuck
    | _, _ => .stuck
  | _ => .stuck
theorem cs_dupdate : CallS X Wx (.builtin "dict.update") bDupd := ⟨fun pins s σ b h ws vs us Q I S r rv q => by
  unfold bDupd at q
  split at q
  · rename_i i j
    by_cases hij : i = j
    · rw [if_pos hij] at q; exact q.elim
    rw [if_neg hij] at q
    cases r with
    | cons r1 rr => cases rr with
      | cons r2 rr => cases rr; cases rv with
        | cons v1 rv => cases rv with
          | cons v2 rv => cases rv; cases r1 with
            | ref _ hi => cases r2 with
              | ref _ hj =>
                split at q
                · rename_i kvs more ei ej
                  by_cases hz : kvs.length + more.length ≤ sizeLine
                  case neg => rw [if_neg hz] at q; exact q.elim
                  rw [if_pos hz] at q
                  obtain ⟨ps, h1, rk, _⟩ := S.dict ei
                  obtain ⟨qs, h2, rl, _⟩ := S.dict ej
                  cases v1; cases v2
                  have ne : b.at_ i ≠ b.at_ j := fun z => hij (S.inj i j _ _ ei ej rfl rfl z)
                  obtain ⟨z1, lo1, xs, kx, dx⟩ := dk_of I.hok h1
                  obtain ⟨z2, lo2, ys, ky, dy⟩ := dk_of I.hok h2
                  obtain ⟨ex, S2⟩ := S.putD ei (rl.merge rk)
                  have hl : xs.length + ys.length ≤ sizeLine := by rw [← kx.length, ← ky.length, rk.len, rl.len]; exact hz
                  refine call_meetsIn PySem.F.slot_dict_update dx.typeIs PySem.F.entry_dict_update (PySem.F.args_dict_update_2 _ _) (meets_dict_update (mixKind X.prog X.w) _ _ ne lo2) ⟨xs, ys, dx, dy, hl, fun h' dx' dy' hs => ?_⟩
                  have he : ∃ q, h'.get? (b.at_ i) = some q := let ⟨q, _, _, hq, _⟩ := dx'; ⟨q, hq⟩
                  have hm : (mergeK ps qs).length ≤ sizeLine := by
                    have := length_mergeK qs ps
                    have := rk.len
                    have := rl.len
                    omega
                  exact ⟨.non, _, d_write (t' := s.toks) I (by rw [h1]; exact True.intro) hs he (dk_new hm lo1 (KV_merged kx ky) dx'), rfl, q _ _ ex S2 .non⟩
                · exact q.elim
  · exact q.elim⟩
/-! ### made of others -/
theorem Sim.pushD2 {K : PySem.W.Frag} {b : Bs} {h : MH} (S : Sim K b h) {p : Addr} {kvs : List (Key × W)} {ps : List (Key × V)} (hp : b.H p = none) (r : Rlk K b kvs ps) : PM.Ext K b (b.push p (.dK ps)) ∧ Sim K (b.push p (.dK ps)) (h ++ [.dct kvs]) ∧ Rl K (b.push p (.dK ps)) (.ref h.length) (.ref p) := S.pushD hp r
/-- dict(d) -/
def bDict (ws : List W) (h : MH) : R W := match ws with
  | [.ref i] => match dctAt h i with
    | some kvs => .ok (.ref h.length) (h ++ [.dct kvs])
    | none => .stuck
  | _ => .stuck
theorem cs_dict : CallS X Wx (.type "dict") bDict := .of call_dictD fun σ b h ws vs Q S r q => by
  unfold bDict at q
  split at q
  · rename_i i
    cases r with
    | cons r1 rr => cases rr; cases r1 with
      | ref _ hi =>
        split at q
        · rename_i kvs ed
          obtain ⟨ps, rd, rk, _⟩ := S.dic ed
          refine ⟨_, ps, rfl, rd, fun p hp => ?_⟩
          obtain ⟨ex, S2, r2⟩ := S.pushD2 hp rk
          exact q _ _ ex S2 r2
        · exact q.elim
  · exact q.elim
def keyW : Key → W
  | .inl i => .int i
  | .inr x => .str x
theorem keys_rls {K : PySem.W.Frag} {b : Bs} {kvs : List (Key × W)} {ps : List (Key × V)} (r : Rlk K b kvs ps) : Rls K b (kvs.map fun (kv : Key × W) => keyW kv.1) (ps.map fun (kv : Key × V) => kV kv.1) := by
  refine Rlk.ind (p := fun (a : List (Key × W)) (c : List (Key × V)) => Rls K b (a.map fun (kv : Key × W) => keyW kv.1) (c.map fun (kv : Key × V) => kV kv.1)) .nil (fun k w v kvs ps r1 _ ih => .cons ?_ ih) r
  cases k with
  | inl i => exact .int i
  | inr x => exact .str x
/-- list(x): of a list, a tuple, a dict -/
def bList (ws : List W) (h : MH) : R W := match ws with
  | [.tup xs] => .ok (.ref h.length) (h ++ [.lst xs])
  | [.ref i] => match lstAt h i with
    | some xs => .ok (.ref h.length) (h ++ [.lst xs])
    | none => match dctAt h i with
      | some kvs => .ok (.ref h.length) (h ++ [.lst (kvs.map fun kv => keyW kv.1)])
      | none => .stuck
  | _ => .stuck
theorem cs_list (hc : X.calm = true) : CallS X Wx (.type "list") bList := .of (callR_or call_list_of (call_listD hc)) fun σ b h ws vs Q S r q => by
  unfold bList at q
  split at q
  · rename_i xs
    cases r with
    | cons r1 rr => cases rr; cases r1 with
      | tup a _ us hs rr =>
        refine .inl ⟨a, us, rfl, .inr hs, fun p hp => ?_⟩
        obtain ⟨ex, S2, r2⟩ := S.pushL hp rr
        exact q _ _ ex S2 r2
  · rename_i i
    cases r with
    | cons r1 rr => cases rr; cases r1 with
      | ref _ hi =>
        split at q
        · rename_i xs e
          obtain ⟨us, hs, rx, _⟩ := S.list e
          refine .inl ⟨_, us, rfl, .inl hs, fun p hp => ?_⟩
          obtain ⟨ex, S2, r2⟩ := S.pushL hp rx
          exact q _ _ ex S2 r2
        · split at q
          · rename_i kvs ed
            obtain ⟨ps, rd, rk, _⟩ := S.dic ed
            refine .inr ⟨_, ps, rfl, rd, fun p hp => ?_⟩
            obtain ⟨ex, S2, r2⟩ := S.pushL hp (keys_rls rk)
            exact q _ _ ex S2 r2
          · exact q.elim
  · exact q.elim
/-- tuple(x) of a list, a tuple -/
def bTupO (ws : List W) (h : MH) : R W := match ws with
  | [.tup xs] => .ok (.tup xs) h
  | [.ref i] => match lstAt h i with
    | some xs => .ok (.tup xs) h
    | none => .stuck
  | _ => .stuck
theorem cs_tuple : CallS X Wx (.type "tuple") bTupO := .of call_tuple_of fun σ b h ws vs Q S r q => by
  unfold bTupO at q
  split at q
  · rename_i xs
    cases r with
    | cons r1 rr => cases rr; cases r1 with
      | tup a _ us hs rr => exact ⟨a, us, rfl, .inr ⟨hs, q.here S (.tup a _ us hs rr)⟩⟩
  · rename_i i
    cases r with
    | cons r1 rr => cases rr; cases r1 with
      | ref _ hi =>
        split at q
        · rename_i xs e
          obtain ⟨us, hs, rx, _⟩ := S.list e
          refine ⟨_, us, rfl, .inl ⟨hs, fun p hp => ?_⟩⟩
          have ex := Ext.also (K := X.K) (o := .tup us) hp
          exact q _ _ ex (S.also hp) (.tup p _ us (.inl (.inl upd_same)) (rx.ext ex))
        · exact q.elim
  · exact q.elim
end
end PM
/-! Sm22: sorted, == of dicts, list(range), defaults. -/
namespace PM
open PySem PySem.Spec L2
open PyProof.Rows hiding St
/-! ### sorted -/
def srtI (l : List Int) : List Int := l.mergeSort fun a c => decide (a ≤ c)
theorem srtI_eq {l ys : List Int} (p : ys.Perm l) (s : ys.Pairwise (· ≤ ·)) : ys = srtI l := by
  have h1 : (srtI l).Pairwise (fun a c => decide (a ≤ c) = true) := List.pairwise_mergeSort (le := fun (a c : Int) => decide (a ≤ c)) (fun a b c h1 h2 => decide_eq_true (Int.le_trans (of_decide_eq_true h1) (of_decide_eq_true h2))) (fun a b => by
    rcases Int.le_total a b with h | h
    · simp [h]
    · simp [h]) l
  have h2 : (srtI l).Pairwise (· ≤ ·) := h1.imp fun h => of_decide_eq_true h
  exact List.Perm.eq_of_pairwise (fun a b _ _ h1 h2 => Int.le_antisymm h1 h2) s h2 (p.trans (List.mergeSort_perm l _).symm)
theorem srtI_perm (l : List Int) : (srtI l).Perm l := List.mergeSort_perm l _
def intsOf : List W → Option (List Int)
  | [] => some []
  | .int k :: r => (intsOf r).map (k :: ·)
  | _ => none
theorem intsOf_ok {K : PySem.W.Frag} {b : Bs} : ∀ {ws : List W} {vs : List V} {ks : List Int}, Rls K b ws vs → intsOf ws = some ks → vs = ks.map V.int
  | _, _, ns, .nil, e => by cases e; rfl
  | w :: ws, _, ns, .cons r1 rr, e => by
    cases r1 with
    | int n =>
      simp only [intsOf, Option.map_eq_some_iff] at e
      obtain ⟨ms, e, rfl⟩ := e
      rw [intsOf_ok rr e]; rfl
    | _ => cases e
theorem rls_strs {K : PySem.W.Frag} {b : Bs} : ∀ l : List Str, Rls K b (l.map W.str) (l.map V.str)
  | [] => .nil
  | i :: l => .cons (.str i) (rls_strs l)
/-- the keys of a dict, all of them integers -/
def intKeys (kvs : List (Key × W)) : Option (List Int) := intsOf (kvs.map fun kv => keyW kv.1)
theorem intKeys_ok {kvs : List (Key × W)} {ks : List Int} (e : intKeys kvs = some ks) : kvs.map (·.1) = ks.map Sum.inl := by
  unfold intKeys at e
  induction kvs generalizing ks with
  | nil => cases e; rfl
  | cons p r ih =>
    obtain ⟨k, w⟩ := p
    cases k with
    | inl i =>
      simp only [List.map_cons, keyW, intsOf, Option.map_eq_some_iff] at e
      obtain ⟨ms, e, rfl⟩ := e
      simp [ih e]
    | inr x => simp [keyW, intsOf] at e
section
variable {X : Cx} {Wx : WX}
/-- sorted(d), a dict of integers, of any size -/
theorem sorted_dictI (hcalm : X.calm = true) : CallR X (.builtin "sorted") (fun xs H Q => ∃ (a : Addr) (kvs : List (Key × V)) (ks : List Int), xs = [.ref a] ∧ Rd H a (.dK kvs) ∧ kvs.map (·.1) = ks.map Sum.inl ∧
    ∀ p : Addr, H p = none → Q (.ref p) (upd H p (.lst ((srtI ks).map V.int)))) := by
  intro pins s σ H xs us Q I r q
  obtain ⟨a, kvs, ks, ex, hd, hks, q⟩ := q
  subst ex
  obtain ⟨u, eu, rx⟩ := vals1 r
  subst eu
  cases rx
  obtain ⟨hz, lo, vs, rel, dd⟩ := dk_rd I.hok hd
  obtain ⟨ep, hat⟩ := dd.dictAt
  have hkeys := rel.keys.symm.trans hks
  have hl : vs.length = ks.length := by simpa using congrArg List.length hkeys
  have h16 : vs.length ≤ sizeLine := rel.length ▸ hz
  refine Calls.call_function_entry PyProof.Rows.kind_sorted PyProof.Rows.plain_sorted PyProof.Rows.entry_sorted (PyProof.Rows.args_sorted1 _) ?_
  unfold Builtin.«sorted»
  refine wpAny_bind (m := checkCount "sorted" 1 1 _) (wpAny_pure (wpAny_bind (PySem.W.kdu_collect (A := X.A.in1) (PySem.W.kdl_dict (knd := mixKind X.prog X.w) (kvs := vs) (ep := ep) lo) (I.ok.hd hcalm) hat h16 fun h1 t1 acc hk hacc => ?_)))
  have hal : acc.toList.length = ks.length := by rw [Array.length_toList, hacc.1]; exact hl
  have hS : IntsAre acc.toList ks := ints_each hal fun j v e => by
    obtain ⟨k, x, e1, e2⟩ := hacc.2 j v (by rw [← Array.getElem?_toList]; exact e)
    have e3 : (vs.map (·.1))[j]? = some k := by simp [e1]
    rw [hkeys, List.getElem?_map] at e3
    obtain ⟨y, e4, e5⟩ := Option.map_eq_some_iff.mp e3
    subst e5
    rcases keyIs_shape (show keyIs (Sum.inl y) v = true from e2) with ⟨i, t, ek, ev⟩ | ⟨z, t, ek, ev⟩
    · cases ek; exact ⟨y, t, e4, ev⟩
    · cases ek
  have I1 : Inv X pins σ H { s with heap := h1, toks := t1 } := I.kept hk
  have hz2 : acc.toList.length ≤ sizeLine := by omega
  refine wpAny_bind (wpAny_newList ?_ hz2)
  have hoL : (h1.push (seqObj "list" acc.toList.toArray 0)).get? h1.objs.size = some (seqObj "list" acc.toList.toArray 0) := Heap.get?_push_size _ rfl
  show wpAny _ _ _ _ _ { s with heap := h1.push (seqObj "list" acc.toList.toArray 0), toks := t1 }
  refine wpAny_bind (wpAny_holding (wpAny_call_entry PyProof.Rows.slot_list_sort ⟨_, hoL, rfl⟩ PyProof.Rows.entry_list_sort
    (SrtO.list_sort_ord (s := { s with heap := h1.push (seqObj "list" acc.toList.toArray 0), toks := t1 }) SrtO.swo_int hoL hz2 (fun h2 => SrtO.ints_sortable hS h2) fun out o1 o2 => ⟨.none, rfl, ?_⟩) (PyProof.Rows.args_list_sort _)))
  obtain ⟨k1, k2, k3⟩ := SrtO.ints_out hS o1 o2
  obtain ⟨e', he'⟩ := PyProof.Rows.sortedHeap_at (vs := acc.toList) (out := out.toArray) hoL
  have hys : out.map SrtO.iv = srtI ks := srtI_eq k2 k3
  rw [hys] at k1 k2
  have hlen : ((srtI ks).map V.int).length ≤ sizeLine := by rw [List.length_map, k2.length_eq]; omega
  refine wpAny_pure ⟨_, rfl, .ref h1.objs.size, upd H h1.objs.size (.lst ((srtI ks).map V.int)), I1.laid (t' := t1) (fun b u e => ?_) (Nat.le_refl _)
    (show ObjOk X.prog X.w _ _ _ (.lst _) from ⟨hlen, out, e', vals_of_ints k1, he'⟩), rfl, q _ (I1.hok.fresh (Nat.le_refl _))⟩
  have hb : b < h1.objs.size := Heap.lt_size e
  rw [PyProof.Rows.sortedHeap_old (Nat.ne_of_lt hb) (by rw [size_push']; exact Nat.lt_succ_of_lt hb)]
  exact Heap.get?_push_of_some _ e
/-- sorted(x): a list or a dict of integers -/
def bSrt (ws : List W) (h : MH) : R W := match ws with
  | [.ref i] => match lstAt h i with
    | some xs => match intsOf xs with
      | some ks => .ok (.ref h.length) (h ++ [.lst ((srtI ks).map W.int)])
      | none => .stuck
    | none => match dctAt h i with
      | some kvs => match intKeys kvs with
        | some ks => .ok (.ref h.length) (h ++ [.lst ((srtI ks).map W.int)])
        | none => .stuck
      | none => .stuck
  | _ => .stuck
theorem cs_sorted (hc : X.calm = true) : CallS X Wx (.builtin "sorted") bSrt := .of (callR_or cr_sortedI (sorted_dictI hc)) fun σ b h ws vs Q S r q => by
  unfold bSrt at q
  split at q
  · rename_i i
    cases r with
    | cons r1 rr => cases rr; cases r1 with
      | ref _ hi =>
        split at q
        · rename_i xs e
          split at q
          · rename_i ks ek
            obtain ⟨us, hs, rx, _⟩ := S.list e
            have := intsOf_ok rx ek
            subst this
            refine .inl ⟨_, ks, rfl, hs, fun ys p h1 h2 hp => ?_⟩
            rw [srtI_eq h1 h2]
            obtain ⟨ex, S2, r2⟩ := S.pushL hp (rls_ints (srtI ks))
            exact q _ _ ex S2 r2
          · exact q.elim
        · split at q
          · rename_i kvs ed
            split at q
            · rename_i ks ek
              obtain ⟨ps, rd, rk, _⟩ := S.dic ed
              refine .inr ⟨_, ps, ks, rfl, rd, rk.1.trans (intKeys_ok ek), fun p hp => ?_⟩
              obtain ⟨ex, S2, r2⟩ := S.pushL hp (rls_ints (srtI ks))
              exact q _ _ ex S2 r2
            · exact q.elim
          · exact q.elim
  · exact q.elim
end
end PM
/-! Sm23: == of dicts, list(range), defaults. -/
namespace PM
open PySem PySem.Spec L2
open PyProof.Rows hiding St
def flatD : W → Option PyData
  | .non => some .none
  | .bl k => some (.bool k)
  | .int i => some (.int i)
  | .str x => some (.str x)
  | _ => none
def hitsM (kws : List (Key × W)) : List (Key × W) → Option Bool
  | [] => some true
  | (k, w) :: r => match valM kws k with
    | none => some false
    | some y => (flatD w).bind fun d => (flatD y).bind fun e => (hitsM kws r).map fun b => PyData.eqv d e && b
theorem flatD_of {K : PySem.W.Frag} {b : Bs} {w : W} {v : V} {u : Value} {d : PyData} (e : flatD w = some d) (r : Rl K b w v) (rv : RelV v u) : PyProof.V.Flat u d := by
  cases r with
  | non => cases e; cases (show u = Value.none from rv); exact fun _ => .none
  | bl k => cases e; cases (show u = Value.bool k from rv); exact fun _ => .bool _
  | int i => cases e; obtain ⟨t, z⟩ := (show ∃ t, u = Value.int i t from rv); cases z; exact fun _ => .int _ _
  | str x => cases e; obtain ⟨t, z⟩ := (show ∃ t, u = Value.str x t from rv); cases z; exact fun _ => .str _ _
  | _ => cases e
theorem hits_of {K : PySem.W.Frag} {b : Bs} {A : Around} {s : Shared} {kws : List (Key × W)} {qs : List (Key × V)} {ys : List (Key × Value)} (rq : Rlk K b kws qs) (kq : KV qs ys) :
    ∀ {kvs : List (Key × W)} {ps : List (Key × V)} {xs : List (Key × Value)} {r : Bool}, Rlk K b kvs ps → KV ps xs → hitsM kws kvs = some r → PySem.W.KeqHits A s ys xs r
  | [], ps, xs, r, rp, kp, e => by
    rw [rp.inv_nil] at kp
    cases kp
    cases e
    exact .nil
  | (k, w) :: kvs, ps, xs, r, rp, kp, e => by
    obtain ⟨v, ps', rfl, r1, r2⟩ := rp.inv
    unfold hitsM at e
    have m := rq.val k
    have n := kq.val k
    cases xs with
    | nil => cases kp
    | cons x xs =>
      obtain ⟨k', u⟩ := x
      obtain ⟨⟨ek, rv⟩, kp'⟩ : (k = k' ∧ RelV v u) ∧ KV ps' xs := by cases kp with | cons h t => exact ⟨h, t⟩
      subst ek
      cases ev : valM kws k with
      | none =>
        rw [ev] at e m
        rw [m] at n
        cases e
        exact .miss (RelO.none_of n)
      | some y =>
        rw [ev] at e m
        obtain ⟨z, e1, r3⟩ := m
        rw [e1] at n
        obtain ⟨u', e2, rv'⟩ := RelO.some_of n
        obtain ⟨d, ed, e⟩ := Option.bind_eq_some_iff.mp e
        obtain ⟨e', ee, e⟩ := Option.bind_eq_some_iff.mp e
        obtain ⟨b', eb, e⟩ := Option.map_eq_some_iff.mp e
        subst e
        exact .hit e2 (PySem.W.keq_flat (flatD_of ed r1 rv) (flatD_of ee r3 rv')) (hits_of rq kq r2 kp' eb)
section
variable {X : Cx} {Wx : WX} {k : Nat}
/-- == of dicts -/
def bEqD (neg : Bool) : W → W → MH → R W := fun x y h => match x, y with
  | .ref i, .ref j => match dctAt h i, dctAt h j with
    | some kvs, some kws => if kvs.length = kws.length then match hitsM kws kvs with
        | some r => .ok (.bl (if neg then !r else r)) h
        | none => .stuck
      else .ok (.bl neg) h
    | _, _ => .stuck
  | _, _ => .stuck
theorem os_eqD (hr : Room k X.A) : OpS X Wx (compareOp .Eq) (bEqD false) := ⟨fun pins s σ b h x y x' y' v u Q I S r1 r2 rv ru q => by
  unfold bEqD at q
  cases r1 with
  | ref i hi => cases r2 with
    | ref j hj =>
      dsimp only at q
      split at q
      · rename_i kvs kws ei ej
        obtain ⟨ps, rd, rp, _⟩ := S.dic ei
        obtain ⟨qs, re, rq, _⟩ := S.dic ej
        cases rv; cases ru
        obtain ⟨z1, lo1, xs, kx, dx⟩ := dk_rd I.hok rd
        obtain ⟨z2, lo2, ys, ky, dy⟩ := dk_rd I.hok re
        have lx : xs.length = kvs.length := by rw [← kx.length, rp.len]
        have ly : ys.length = kws.length := by rw [← ky.length, rq.len]
        by_cases hl : kvs.length = kws.length
        · rw [if_pos hl] at q
          split at q
          · rename_i r er
            exact PySem.W.keq_eq (knd := mixKind X.prog X.w) (r := r) lo1 lo2 dx dy hr.units0 (fun _ => hits_of rq ky rp kx er) (fin_bl I (q.here S (.bl _)) (by simp [lx, ly, hl]))
          · exact q.elim
        · rw [if_neg hl] at q
          exact PySem.W.keq_eq (knd := mixKind X.prog X.w) (r := true) lo1 lo2 dx dy hr.units0 (fun z => absurd (by omega) hl) (fin_bl I (q.here S (.bl _)) (by simp [lx, ly, hl]))
      · exact q.elim
    | _ => exact q.elim
  | _ => exact q.elim⟩
theorem os_neD (hr : Room k X.A) : OpS X Wx (compareOp .NotEq) (bEqD true) := ⟨fun pins s σ b h x y x' y' v u Q I S r1 r2 rv ru q => by
  unfold bEqD at q
  cases r1 with
  | ref i hi => cases r2 with
    | ref j hj =>
      dsimp only at q
      split at q
      · rename_i kvs kws ei ej
        obtain ⟨ps, rd, rp, _⟩ := S.dic ei
        obtain ⟨qs, re, rq, _⟩ := S.dic ej
        cases rv; cases ru
        obtain ⟨z1, lo1, xs, kx, dx⟩ := dk_rd I.hok rd
        obtain ⟨z2, lo2, ys, ky, dy⟩ := dk_rd I.hok re
        have lx : xs.length = kvs.length := by rw [← kx.length, rp.len]
        have ly : ys.length = kws.length := by rw [← ky.length, rq.len]
        by_cases hl : kvs.length = kws.length
        · rw [if_pos hl] at q
          split at q
          · rename_i r er
            exact PySem.W.keq_ne (knd := mixKind X.prog X.w) (r := r) lo1 lo2 dx dy hr.units0 (fun _ => hits_of rq ky rp kx er) (fin_bl I (q.here S (.bl _)) (by simp [lx, ly, hl]))
          · exact q.elim
        · rw [if_neg hl] at q
          exact PySem.W.keq_ne (knd := mixKind X.prog X.w) (r := true) lo1 lo2 dx dy hr.units0 (fun z => absurd (by omega) hl) (fin_bl I (q.here S (.bl _)) (by simp [lx, ly, hl]))
      · exact q.elim
    | _ => exact q.elim
  | _ => exact q.elim⟩
end
end PM
/-! Sm24: loops over dicts; dict comprehensions. -/
namespace PM
open PySem PySem.Spec L2
open PyProof.Rows hiding St
/-- values stay -/
structure Mv (K : PySem.W.Frag) (b c : Bs) : Prop where
  le : b.n ≤ c.n
  ix : ∀ i, i < b.n → c.at_ i = b.at_ i
  tp : ∀ a xs, SqT K b.H a xs → SqT K c.H a xs
mutual
theorem Rl.mv {K : PySem.W.Frag} {b c : Bs} (x : Mv K b c) : ∀ {w : W} {v : V}, Rl K b w v → Rl K c w v
  | _, _, .non => .non
  | _, _, .bl k => .bl k
  | _, _, .int k => .int k
  | _, _, .str k => .str k
  | _, _, .ty k => .ty k
  | _, _, .ref i h => by
    rw [← x.ix i h]
    exact .ref i (Nat.lt_of_lt_of_le h x.le)
  | _, _, .glo y => .glo y
  | _, _, .tup a ws vs h r => .tup a ws vs (x.tp a vs h) (Rls.mv x r)
theorem Rls.mv {K : PySem.W.Frag} {b c : Bs} (x : Mv K b c) : ∀ {ws : List W} {vs : List V}, Rls K b ws vs → Rls K c ws vs
  | _, _, .nil => .nil
  | _, _, .cons h t => .cons (Rl.mv x h) (Rls.mv x t)
end
/-! ### a dict locked while a part runs -/
section
variable {K : PySem.W.Frag} {b c : Bs} {h : MH} {i : Nat} {kvs kws : List (Key × W)} {ps : List (Key × V)} {od : Obj}
theorem Sim.lock (S : Sim K b h) (e : h[i]? = some (.dct kvs)) (h1 : b.H (b.at_ i) = some (.dK ps)) (r : Rlk K b kvs ps) : PM.Ext K b (b.put i (.frz od (.dK ps))) ∧ Sim K (b.put i (.frz od (.dK ps))) (h.set i (.lck kvs)) := by
  have ex : PM.Ext K b (b.put i (.frz od (.dK ps))) := Ext.put (S.ob i _ e) rfl
  have hi : i < h.length := (List.getElem?_eq_some_iff.mp e).1
  refine ⟨ex, by rw [List.length_set, ← S.len]; rfl, fun j u ej => ?_, fun j k u u' ej ek hu hu' q => ?_⟩
  · by_cases hj : i = j
    · subst hj
      rw [List.getElem?_set_self hi] at ej
      cases ej
      exact ⟨od, ps, upd_same, r.ext ex⟩
    · rw [List.getElem?_set_ne hj] at ej
      refine (S.ob j u ej).keep ex (S.lt ej) fun q hk hq => (upd_ne fun z => ?_).trans hq
      rw [z, h1] at hq
      rcases hk with hw | ⟨o2, z2, e2⟩
      · exact hj (S.inj i j _ u e ej rfl (Ob.mine_of hw) z.symm)
      · rw [e2] at hq; cases hq
  · have key : ∀ (k : Nat) (w : Ob), (h.set i (.lck kvs))[k]? = some w → w.mine = true → ∃ w' : Ob, h[k]? = some w' ∧ w'.mine = true := fun k (w : Ob) e2 hw => by
      by_cases hk : i = k
      · subst hk; exact ⟨_, e, rfl⟩
      · rw [List.getElem?_set_ne hk] at e2; exact ⟨w, e2, hw⟩
    obtain ⟨u1, e1, w1⟩ := key j u ej hu
    obtain ⟨u2, e2, w2⟩ := key k u' ek hu'
    exact S.inj j k u1 u2 e1 e2 w1 w2 q
theorem Sim.unlock (S : Sim K c h) (e : h[i]? = some (.lck kws)) (h1 : c.H (c.at_ i) = some (.frz od (.dK ps))) (r : Rlk K (c.put i (.dK ps)) kvs ps) (tp : ∀ a xs, SqT K c.H a xs → SqT K (upd c.H (c.at_ i) (.dK ps)) a xs) : Sim K (c.put i (.dK ps)) (h.set i (.dct kvs)) := by
  have hi : i < h.length := (List.getElem?_eq_some_iff.mp e).1
  refine ⟨by rw [List.length_set, ← S.len]; rfl, fun j u ej => ?_, fun j k u u' ej ek hu hu' q => ?_⟩
  · by_cases hj : i = j
    · subst hj
      rw [List.getElem?_set_self hi] at ej
      cases ej
      exact ⟨ps, upd_same, r⟩
    · rw [List.getElem?_set_ne hj] at ej
      have mv : Mv K c (c.put i (.dK ps)) := ⟨Nat.le_refl _, fun _ _ => rfl, tp⟩
      have keepL : ∀ {ws : List W} {vs : List V}, Rls K c ws vs → Rls K (c.put i (.dK ps)) ws vs := fun {ws vs} q => q.mv mv
      have ne : ∀ {q : HO}, c.H (c.at_ j) = some q → u.mine = true ∨ (∀ o' u', q = .frz o' u' → ∃ ys, u' = .lst ys) → upd c.H (c.at_ i) (.dK ps) (c.at_ j) = some q := fun {q} hq hm => by
        rw [upd_ne]
        · exact hq
        · intro z
          rcases hm with hm | hm
          · exact hj (S.inj i j _ u e ej rfl hm z.symm)
          · rw [z, h1] at hq
            cases hq
            obtain ⟨ys, ey⟩ := hm _ _ rfl
            cases ey
      have o := S.ob j u ej
      cases u with
      | lst ws => obtain ⟨vs, h2, r2⟩ := o; exact ⟨vs, ne h2 (.inl rfl), keepL r2⟩
      | dct ks => obtain ⟨vs, h2, r2⟩ := o; exact ⟨vs, ne h2 (.inl rfl), r2.1, keepL r2.2⟩
      | ins C fs => obtain ⟨dx, vs, h2, r2⟩ := o; exact ⟨dx, vs, ne h2 (.inl rfl), r2.1, keepL r2.2⟩
      | lck ks => obtain ⟨o2, vs, h2, r2⟩ := o; exact ⟨o2, vs, ne h2 (.inl rfl), r2.1, keepL r2.2⟩
      | ro ws =>
        obtain ⟨vs, h2, r2⟩ := o
        refine ⟨vs, ?_, keepL r2⟩
        rcases h2 with ⟨o2, h2⟩ | h2
        · exact .inl ⟨o2, ne h2 (.inr fun o' u' z => by cases z; exact ⟨_, rfl⟩)⟩
        · exact .inr h2
      | rod ks => exact o.elim
  · have key : ∀ (k : Nat) (w : Ob), (h.set i (.dct kvs))[k]? = some w → w.mine = true → ∃ w' : Ob, h[k]? = some w' ∧ w'.mine = true := fun k (w : Ob) e2 hw => by
      by_cases hk : i = k
      · subst hk; exact ⟨_, e, rfl⟩
      · rw [List.getElem?_set_ne hk] at e2; exact ⟨w, e2, hw⟩
    obtain ⟨u1, e1, w1⟩ := key j u ej hu
    obtain ⟨u2, e2, w2⟩ := key k u' ek hu'
    exact S.inj j k u1 u2 e1 e2 w1 w2 q
end
/-- which dict is locked -/
abbrev Ch := MS → MH → Option Nat
def chE (m : EM) : Ch := fun σ h => match m σ h with
  | .ok (.ref i) _ => some i
  | _ => none
def unl (i : Nat) (kvs : List (Key × W)) (h : MH) (k : MH → RS) : RS := match h[i]? with
  | some (.lck _) => k (h.set i (.dct kvs))
  | _ => .stuck
def unlS (i : Nat) (kvs : List (Key × W)) : RS → RS
  | .nx σ h => unl i kvs h (.nx σ)
  | .rt w h => unl i kvs h (.rt w)
  | .bk σ h => unl i kvs h (.bk σ)
  | .ct σ h => unl i kvs h (.ct σ)
  | .exc x σ h => .exc x σ h
  | .stuck => .stuck
/-- the statement, the dict locked -/
def sLk (ch : Ch) (m : SM) : SM := fun σ h => match ch σ h with
  | some i => match h[i]? with
    | some (.dct kvs) => unlS i kvs (m σ (h.set i (.lck kvs)))
    | _ => m σ h
  | none => m σ h
def unlE (i : Nat) (kvs : List (Key × W)) : R W → R W
  | .ok w h => match h[i]? with
    | some (.lck _) => .ok w (h.set i (.dct kvs))
    | _ => .stuck
  | .exc x h => .exc x h
  | .stuck => .stuck
def eLk (ch : Ch) (m : EM) : EM := fun σ h => match ch σ h with
  | some i => match h[i]? with
    | some (.dct kvs) => unlE i kvs (m σ (h.set i (.lck kvs)))
    | _ => m σ h
  | none => m σ h
section
variable {X : Cx} {Wx : WX} {st : Stmt} {e : Expr} {m : SM} {me : EM} {ch : Ch}
theorem lock_go {K : PySem.W.Frag} {b c : Bs} {h g : MH} {i : Nat} {kvs kws : List (Key × W)} {ps : List (Key × V)} {od : Obj} (S : Sim K b h) (ei : h[i]? = some (.dct kvs)) (h1 : b.H (b.at_ i) = some (.dK ps)) (rk : Rlk K b kvs ps)
    (x : PM.Ext K (b.put i (.frz od (.dK ps))) c) (Sc : Sim K c g) (eg : g[i]? = some (.lck kws)) :
    c.H (b.at_ i) = some (.frz od (.dK ps)) ∧ c.at_ i = b.at_ i ∧ PM.Ext K b (c.put i (.dK ps)) ∧ Sim K (c.put i (.dK ps)) (g.set i (.dct kvs)) ∧ Mv K c (c.put i (.dK ps)) := by
  have ex0 : PM.Ext K b (b.put i (.frz od (.dK ps))) := Ext.put (S.ob i _ ei) rfl
  have hi : i < b.n := S.lt ei
  have eat : c.at_ i = b.at_ i := x.ix i hi
  have hf : c.H (b.at_ i) = some (.frz od (.dK ps)) := x.fz _ _ _ upd_same
  have hf' : c.H (c.at_ i) = some (.frz od (.dK ps)) := by rw [eat]; exact hf
  have tp : ∀ a xs, SqT K c.H a xs → SqT K (upd c.H (c.at_ i) (.dK ps)) a xs := fun a xs q => by
    rcases q with (q | ⟨o', q⟩) | q
    · exact .inl (.inl ((upd_ne fun z => by rw [z, hf'] at q; cases q).trans q))
    · exact .inl (.inr ⟨o', (upd_ne fun z => by rw [z, hf'] at q; cases q).trans q⟩)
    · exact .inr q
  have mv : Mv K c (c.put i (.dK ps)) := ⟨Nat.le_refl _, fun _ _ => rfl, tp⟩
  have ex : PM.Ext K b (c.put i (.dK ps)) := ⟨Nat.le_trans ex0.le x.le, fun j hj => (x.ix j hj).trans (ex0.ix j hj), fun a xs q => tp a xs (x.tp a xs (ex0.tp a xs q)), fun a o u q => by
    have ne : a ≠ c.at_ i := fun z => by rw [z, eat, h1] at q; cases q
    exact (upd_ne ne).trans (x.fz a o u (ex0.fz a o u q))⟩
  exact ⟨hf, eat, ex, Sc.unlock eg hf' (rk.ext ex) tp, mv⟩
theorem SlM.mv {K : PySem.W.Frag} {b c : Bs} {m : MS} {σ : L2.St} (s : SlM K b m σ) (x : Mv K b c) : SlM K c m σ := ⟨s.len, fun i w e => let ⟨v, h, r⟩ := s.at_ i w e; ⟨v, h, r.mv x⟩⟩
theorem ss_lock (a : SS X Wx st m) : SS X Wx st (sLk ch m) := ⟨⟨fun pins s σ H D I q => by
  obtain ⟨b, h, σm, rfl, S, l, q⟩ := q
  unfold sLk at q
  have plain : PostS X.K Wx b D (m σm h) → wpAny (model X.prog X.w) X.A (exec st X.env) (SP X pins D) X.xe s := fun q => a.ps.run pins s σ b.H D I ⟨b, h, σm, rfl, S, l, q⟩
  split at q
  · rename_i i _
    split at q
    · rename_i kvs ei
      obtain ⟨ps, h1, rk, _⟩ := S.dict ei
      refine (ps_lock a.ps).run pins s σ b.H D I ⟨b.at_ i, .dK ps, h1, True.intro, fun od => ?_⟩
      obtain ⟨ex, S1⟩ := S.lock (od := od) ei h1 rk
      refine ⟨b.put i (.frz od (.dK ps)), h.set i (.lck kvs), σm, rfl, S1, l.ext ex, ?_⟩
      cases er : m σm (h.set i (.lck kvs)) with
      | stuck => rw [er] at q; exact q.elim
      | exc x σ' g => rw [er] at q; exact fun c σ2 x2 s2 l2 => q c σ2 (ex.trans x2) s2 l2
      | nx σ' g =>
        rw [er] at q
        unfold unlS unl at q
        dsimp only at q
        split at q
        · rename_i kws eg
          intro c σ2 x2 s2 l2
          obtain ⟨f1, f2, f3, f4, f5⟩ := lock_go S ei h1 rk x2 s2 eg
          exact ⟨f1, by rw [← f2]; exact q _ _ f3 f4 (l2.mv f5)⟩
        · exact q.elim
      | bk σ' g =>
        rw [er] at q
        unfold unlS unl at q
        dsimp only at q
        split at q
        · rename_i kws eg
          intro c σ2 x2 s2 l2
          obtain ⟨f1, f2, f3, f4, f5⟩ := lock_go S ei h1 rk x2 s2 eg
          exact ⟨f1, by rw [← f2]; exact q _ _ f3 f4 (l2.mv f5)⟩
        · exact q.elim
      | ct σ' g =>
        rw [er] at q
        unfold unlS unl at q
        dsimp only at q
        split at q
        · rename_i kws eg
          intro c σ2 x2 s2 l2
          obtain ⟨f1, f2, f3, f4, f5⟩ := lock_go S ei h1 rk x2 s2 eg
          exact ⟨f1, by rw [← f2]; exact q _ _ f3 f4 (l2.mv f5)⟩
        · exact q.elim
      | rt w g =>
        rw [er] at q
        unfold unlS unl at q
        dsimp only at q
        split at q
        · rename_i kws eg
          intro c v x2 s2 r2
          obtain ⟨f1, f2, f3, f4, f5⟩ := lock_go S ei h1 rk x2 s2 eg
          exact ⟨f1, by rw [← f2]; exact q _ _ f3 f4 (r2.mv f5)⟩
        · exact q.elim
    · exact plain q
  · exact plain q⟩⟩
theorem se_lock (a : SE X Wx e me) : SE X Wx e (eLk ch me) := ⟨⟨fun pins s σ H Q I q => by
  obtain ⟨b, h, σm, rfl, S, l, q⟩ := q
  unfold eLk at q
  have plain : Post X.K (Rl X.K) (fun c d H' => Wx c d σ H') b Q (me σm h) → wpAny (model X.prog X.w) X.A (eval e X.env) (EP X pins σ Q) X.xe s := fun q => a.pe.run pins s σ b.H Q I ⟨b, h, σm, rfl, S, l, q⟩
  split at q
  · rename_i i _
    split at q
    · rename_i kvs ei
      obtain ⟨ps, h1, rk, _⟩ := S.dict ei
      refine (pe_lock a.pe).run pins s σ b.H Q I ⟨b.at_ i, .dK ps, h1, True.intro, fun od => ?_⟩
      obtain ⟨ex, S1⟩ := S.lock (od := od) ei h1 rk
      refine ⟨b.put i (.frz od (.dK ps)), h.set i (.lck kvs), σm, rfl, S1, l.ext ex, ?_⟩
      cases er : me σm (h.set i (.lck kvs)) with
      | stuck => rw [er] at q; exact q.elim
      | exc x g => rw [er] at q; exact fun c x2 s2 => q c (ex.trans x2) s2
      | ok w g =>
        rw [er] at q
        unfold unlE at q
        dsimp only at q
        split at q
        · rename_i kws eg
          intro c v x2 s2 r2
          obtain ⟨f1, f2, f3, f4, f5⟩ := lock_go S ei h1 rk x2 s2 eg
          exact ⟨f1, by rw [← f2]; exact q _ _ f3 f4 (r2.mv f5)⟩
        · exact q.elim
    · exact plain q
  · exact plain q⟩⟩
end
end PM
/-! Sm25: iterators over dicts; dict comprehensions. -/
namespace PM
open PySem PySem.Spec L2
open PyProof.Rows hiding St
def itK (kvs : List (Key × W)) : MI := ⟨kvs.length, fun k _ => some (kvs[k]?.map fun kv => keyW kv.1)⟩
def itV (kvs : List (Key × W)) : MI := ⟨kvs.length, fun k _ => some (kvs[k]?.map fun kv => kv.2)⟩
def itI (kvs : List (Key × W)) : MI := ⟨kvs.length, fun k _ => some (kvs[k]?.map fun kv => .tup [keyW kv.1, kv.2])⟩
section
variable {K : PySem.W.Frag} {c : Bs} {kvs : List (Key × W)} {ps : List (Key × V)} {o : Obj} {d : Addr}
theorem Rlk.get {b : Bs} (r : Rlk K b kvs ps) {k : Nat} {p : Key × W} (e : kvs[k]? = some p) : ∃ v, ps[k]? = some (p.1, v) ∧ Rl K b p.2 v := by
  obtain ⟨h1, h2⟩ := r
  obtain ⟨v, hv, rv⟩ := h2.get (i := k) (w := p.2) (by rw [List.getElem?_map, e]; rfl)
  rw [List.getElem?_map] at hv
  obtain ⟨⟨k', v'⟩, e1, e2⟩ := Option.map_eq_some_iff.mp hv
  have h3 := congrArg (fun l : List Key => l[k]?) h1
  simp only [List.getElem?_map, e, e1, Option.map_some] at h3
  cases e2
  exact ⟨_, by rw [e1, Option.some.inj h3], rv⟩
theorem keyW_rl {b : Bs} (k : Key) : Rl K b (keyW k) (kV k) := by
  cases k with
  | inl i => exact .int i
  | inr x => exact .str x
theorem itK_ok (h1 : c.H d = some (.frz o (.dK ps))) (r : Rlk K c kvs ps) : ItS K c (itK kvs) (Itk d o ps) := by
  intro b h k x s
  unfold itK
  dsimp only
  have hz := x.fz _ _ _ h1
  cases e : kvs[k]? with
  | none => exact ⟨hz, by rw [r.len]; exact List.getElem?_eq_none_iff.mp e⟩
  | some p =>
    obtain ⟨v, e1, _⟩ := r.get e
    refine ⟨⟨hz, (List.getElem?_eq_some_iff.mp e1).1⟩, fun z H' ⟨e2, k', v', e3, e4⟩ => ⟨b, e2.symm, .refl, s, ?_⟩⟩
    rw [e1] at e3; cases e3; subst e4
    exact keyW_rl _
theorem itV_ok (h1 : c.H d = some (.frz o (.dK ps))) (r : Rlk K c kvs ps) : ItS K c (itV kvs) (Itd d o ps) := by
  intro b h k x s
  unfold itV
  dsimp only
  have hz := x.fz _ _ _ h1
  cases e : kvs[k]? with
  | none => exact ⟨hz, by rw [r.len]; exact List.getElem?_eq_none_iff.mp e⟩
  | some p =>
    obtain ⟨v, e1, rv⟩ := r.get e
    refine ⟨⟨hz, (List.getElem?_eq_some_iff.mp e1).1⟩, fun z H' ⟨e2, k', e3⟩ => ⟨b, e2.symm, .refl, s, ?_⟩⟩
    rw [e1] at e3; cases e3
    exact rv.ext x
theorem itI_ok (h1 : c.H d = some (.frz o (.dK ps))) (r : Rlk K c kvs ps) : ItS K c (itI kvs) (Iti d o ps) := by
  intro b h k x s
  unfold itI
  dsimp only
  have hz := x.fz _ _ _ h1
  cases e : kvs[k]? with
  | none => exact ⟨hz, by rw [r.len]; exact List.getElem?_eq_none_iff.mp e⟩
  | some p =>
    obtain ⟨v, e1, rv⟩ := r.get e
    refine ⟨⟨hz, (List.getElem?_eq_some_iff.mp e1).1⟩, fun z H' ⟨T, k', v', e3, e4, hT, eH⟩ => ?_⟩
    rw [e1] at e3; cases e3; subst e4 eH
    have ex := Ext.also (K := K) (o := .tup [kV p.1, v]) hT
    exact ⟨_, rfl, ex, s.also hT, .tup T _ _ (.inl (.inl upd_same)) (.cons (keyW_rl _) (.cons ((rv.ext x).ext ex) .nil))⟩
end
def lckAt (h : MH) (i : Nat) : Option (List (Key × W)) := match h[i]? with
  | some (.lck kvs) => some kvs
  | _ => none
theorem Sim.lck {K : PySem.W.Frag} {b : Bs} {h : MH} (S : Sim K b h) {i : Nat} {kvs : List (Key × W)} (e : lckAt h i = some kvs) : ∃ o ps, b.H (b.at_ i) = some (.frz o (.dK ps)) ∧ Rlk K b kvs ps := by
  unfold lckAt at e
  split at e
  · rename_i k q; cases e; exact S.ob _ _ q
  · cases e
def onLck (f : List (Key × W) → MI) (w : W) (h : MH) : R MI := match w with
  | .ref i => match lckAt h i with
    | some kvs => .ok (f kvs) h
    | none => .stuck
  | _ => .stuck
def iDct (f : List (Key × W) → MI) (m : EM) : MS → MH → R MI := fun σ h => (m σ h).bind (onLck f)
section
variable {X : Cx} {Wx : WX} {tg e : Expr} {me : EM} {apos cpos : Pos}
theorem onLck_read {f : List (Key × W) → MI} {J : Addr → Obj → List (Key × V) → It} (hf : ∀ (c : Bs) kvs ps o d, c.H d = some (.frz o (.dK ps)) → Rlk X.K c kvs ps → ItS X.K c (f kvs) (J d o ps)) {σ : L2.St} {H : Hp} {R : It → Hp → Prop} (q : iSim X.K Wx (iDct f me) σ H R) :
    tSim X.K Wx me σ H fun x H1 => ∃ d o kvs, x = .ref d ∧ H1 d = some (.frz o (.dK kvs)) ∧ R (J d o kvs) H1 := by
  obtain ⟨b, h, σm, eH, S, l, q⟩ := q
  refine ⟨b, h, σm, eH, S, l, (Post.bind (rel := Rl X.K) q).mono fun x H1 ⟨c, w, g, e, x2, s, r, p⟩ => ?_⟩
  subst e
  unfold onLck at p
  cases r with
  | ref i hi =>
    dsimp only at p
    split at p
    · rename_i kvs ek
      obtain ⟨o, ps, h1, rk⟩ := s.lck ek
      exact ⟨_, o, ps, rfl, h1, p.here s (hf c kvs ps o _ h1 rk)⟩
    · exact p.elim
  | _ => exact p.elim
theorem si_items {elts : List Expr} {kk : Nat} {tpos : Pos} (he : SE X Wx e me) (hbase : attributeBase e "items" X.env (eval e X.env) = eval e X.env := by rfl) (hline : (apos.endLine == cpos.line) = true := by rfl) :
    SI X Wx (.Tuple elts kk tpos) (.Call (.Attribute e "items" apos) [] [] cpos) (iDct itI me) := ⟨pi_imp (pi_items he.pe hbase hline) fun σ H R q => onLck_read (J := Iti) (fun c kvs ps o d h r => itI_ok h r) q⟩
theorem si_values (he : SE X Wx e me) (hbase : attributeBase e "values" X.env (eval e X.env) = eval e X.env := by rfl) (hline : (apos.endLine == cpos.line) = true := by rfl) : SI X Wx tg (.Call (.Attribute e "values" apos) [] [] cpos) (iDct itV me) :=
  ⟨pi_imp (pi_values he.pe hbase hline) fun σ H R q => onLck_read (J := Itd) (fun c kvs ps o d h r => itV_ok h r) q⟩
theorem si_keys (he : SE X Wx e me) : SI X Wx tg e (iDct itK me) := ⟨pi_imp (pi_keys he.pe) fun σ H R q => by
  obtain ⟨b, h, σm, eH, S, l, q⟩ := onLck_read (J := Itk) (fun c kvs ps o d h r => itK_ok h r) q
  refine ⟨b, h, σm, eH, S, l, q.mono fun x H1 ⟨d, o, kvs, ex, h1, r⟩ => ⟨d, o, ex, .inl ⟨kvs, h1, r⟩⟩⟩⟩
/-- over a thing of any kind: a list, a tuple, a text, a dict's keys -/
def iterA (w : W) (h : MH) : R MI := match w with
  | .ref i => match lckAt h i with
    | some kvs => .ok (itK kvs) h
    | none => iterW (.ref i) h
  | w => iterW w h
def iAny (m : EM) : MS → MH → R MI := fun σ h => (m σ h).bind iterA
theorem si_any (he : SE X Wx e me) : SI X Wx tg e (iAny me) := by
  refine ⟨⟨fun pins s σ H R I q => ?_⟩⟩
  obtain ⟨b, h, σm, eH, S, l, q⟩ := q
  have alt : (iAny me σm h = iDct itK me σm h) ∨ (iAny me σm h = iVal me σm h) := by
    unfold iAny iDct iVal
    cases em : me σm h with
    | stuck => exact .inl rfl
    | exc x g => exact .inl rfl
    | ok w g =>
      show iterA w g = onLck itK w g ∨ iterA w g = iterW w g
      unfold iterA onLck
      cases w with
      | ref i =>
        dsimp only
        cases lckAt g i with
        | some kvs => exact .inl rfl
        | none => exact .inr rfl
      | _ => exact .inr rfl
  rcases alt with z | z
  · exact (si_keys he).pi.run pins s σ H R I ⟨b, h, σm, eH, S, l, by rw [← z]; exact q⟩
  · exact (si_val he).pi.run pins s σ H R I ⟨b, h, σm, eH, S, l, by rw [← z]; exact q⟩
end
end PM
/-! Sm26: dict comprehensions. -/
namespace PM
open PySem PySem.Spec L2
open PyProof.Rows hiding St
def dcGo (mi : MI) (g : GM) (t : TM) (ek e : EM) (σ : MS) (j : Nat) : Nat → Nat → MH → R W
  | 0, i, h => match mi.nx i h with
    | some none => .ok (.ref j) h
    | _ => .stuck
  | f + 1, i, h => match mi.nx i h with
    | some none => .ok (.ref j) h
    | none => .stuck
    | some (some w) => match g w σ h with
      | none => .stuck
      | some σ1 => ((t σ1 h).nox).bind fun k h1 => if k = true then
          ((ek σ1 h1).nox).bind fun yk h2 => ((e σ1 h2).nox).bind fun y h3 => match h3[j]? with
            | some (.dct kvs) => match keyOf yk with
              | some k => if kvs.length < sizeLine then dcGo mi g t ek e σ j f (i + 1) (h3.set j (.dct (putM kvs k y))) else .stuck
              | none => .stuck
            | _ => .stuck
        else dcGo mi g t ek e σ j f (i + 1) h1
def eDc (it : MS → MH → R MI) (vs : List Nat) (g : GM) (t : TM) (mk m : EM) : EM := fun σ h => (it σ h).bind fun mi h1 => dcGo mi g t mk m (wipeM σ vs) h1.length mi.fuel 0 (h1 ++ [.dct []])
section
variable {X : Cx} {Wx : WX} {pos : Pos} {a c e tg iter : Expr} {ma mc me : EM} {n : AM}
theorem dc_read {K : PySem.W.Frag} {Wx : WX} {it : MS → MH → R MI} {vs : List Nat} {g : GM} {t : TM} {mk m : EM} {σ : L2.St} {H : Hp} {Q : VK} (q : tSim K Wx (eDc it vs g t mk m) σ H Q) :
    tDc (iSim K Wx it) (gSim K vs g) (tSimT K W0 t) (tSim K W0 mk) (tSim K W0 m) vs σ H Q := by
  obtain ⟨b, h, σm, e, S, l, q⟩ := q
  refine ⟨b, h, σm, e, S, l, (Post.bind (rel := ItS K) q).mono fun J H1 ⟨c, mi, g1, e, x, s, r, p⟩ D hD => ?_⟩
  subst e
  obtain ⟨xD, sD, rD⟩ := s.pushD (kvs := []) (ps := []) hD .nil
  have hj : g1.length = c.n := s.len.symm
  refine ⟨fun i f H => ∃ (b : Bs) (h : MH), b.H = H ∧ Ext K (c.push D (.dK [])) b ∧ Sim K b h ∧ SlM K b (wipeM σm vs) (wipe σ vs) ∧ Post K (Rl K) (fun c d H' => Wx c d σ H') b Q (dcGo mi g t mk m (wipeM σm vs) g1.length f i h), ⟨mi.fuel, c.push D (.dK []), _, rfl, .refl, sD, (((l.ext x).ext xD).wipe vs), Post.ext p xD⟩, ?_⟩
  rintro i f H ⟨b, h, rfl, x2, s2, l2, p⟩
  have ri := r b h i (xD.trans x2) s2
  have atD : b.at_ g1.length = D := by
    rw [x2.ix g1.length (by rw [hj]; exact Nat.lt_succ_self _), hj]
    exact Bs.push_at _ _ _
  have rj : Rl K b (.ref g1.length) (.ref D) := by
    have := Rl.ref (K := K) (b := b) g1.length (Nat.lt_of_lt_of_le (by rw [hj]; exact Nat.lt_succ_self _) x2.le)
    rw [atD] at this
    exact this
  cases f with
  | zero =>
    unfold dcGo at p
    cases em : mi.nx i h with
    | none => rw [em] at p; exact p.elim
    | some ow =>
      cases ow with
      | none => rw [em] at p ri; exact .inl ⟨ri, p.here s2 rj⟩
      | some w => rw [em] at p; exact p.elim
  | succ f =>
    unfold dcGo at p
    cases em : mi.nx i h with
    | none => rw [em] at p; exact p.elim
    | some ow =>
      cases ow with
      | none => rw [em] at p ri; exact .inl ⟨ri, p.here s2 rj⟩
      | some w =>
        rw [em] at p ri
        dsimp only at p ri
        cases eg : g w (wipeM σm vs) h with
        | none => rw [eg] at p; exact p.elim
        | some σ1 =>
          rw [eg] at p
          dsimp only at p
          refine .inr ⟨ri.1, fun H' => ∃ (b : Bs) (h : MH), b.H = H' ∧ Ext K (c.push D (.dK [])) b ∧ Sim K b h ∧ SlM K b (wipeM σm vs) (wipe σ vs) ∧ Post K (Rl K) (fun c d H' => Wx c d σ H') b Q (dcGo mi g t mk m (wipeM σm vs) g1.length f (i + 1) h), fun H' z => ⟨f, Nat.lt_succ_self _, z⟩, fun v H' y => ?_⟩
          obtain ⟨c1, e1, x1, s1, r1⟩ := ri.2 v H' y
          refine ⟨c1, h, _, w, e1, s1, l2.ext x1, r1, ?_⟩
          rw [eg]
          refine fun c3 σ3 x3 s3 l3 o3 => ⟨?_, c3, h, σ1, rfl, s3, l3, ?_⟩
          · rw [o3.wipe]
            have : Off vs σ (wipe σ vs) := ⟨wipe_length _ _, fun j hj => by rw [wipe_get, if_neg hj]⟩
            rw [this.wipe]
          refine (Post.bindN (rel := rEqB) (Post.ext p (x1.trans x3))).mono fun k H4 ⟨c4, k', g4, e4, x4, s4, r4, p4⟩ => ?_
          subst e4; subst r4
          have l4 : SlM K c4 (wipeM σm vs) (wipe σ vs) := ((l2.ext x1).ext x3).ext x4
          have x04 : Ext K (c.push D (.dK [])) c4 := x2.trans (x1.trans (x3.trans x4))
          cases k' with
          | false =>
            rw [if_neg Bool.false_ne_true] at p4 ⊢
            exact ⟨c4, g4, rfl, x04, s4, l4, p4⟩
          | true =>
            rw [if_pos rfl] at p4 ⊢
            refine ⟨c4, g4, σ1, rfl, s4, l3.ext x4, (Post.bindN (rel := Rl K) p4).mono fun yk H6 ⟨c6, kw, g6, e6, x6, s6, r6, p6⟩ => ?_⟩
            subst e6
            refine ⟨c6, g6, σ1, rfl, s6, (l3.ext x4).ext x6, (Post.bindN (rel := Rl K) p6).mono fun y H5 ⟨c5, yw, g5, e5, x5, s5, r5, p5⟩ => ?_⟩
            subst e5
            cases ea : g5[g1.length]? with
            | none => rw [ea] at p5; exact p5.elim
            | some ob =>
              rw [ea] at p5
              cases ob with
              | dct kvs =>
                cases ek : keyOf kw with
                | none => rw [ek] at p5; exact p5.elim
                | some k =>
                  rw [ek] at p5
                  dsimp only at p5
                  by_cases hz : kvs.length < sizeLine
                  · rw [if_pos hz] at p5
                    obtain ⟨ps, h6, rk6, _⟩ := s5.dict ea
                    have at5 : c5.at_ g1.length = D := by
                      rw [(x3.trans (x4.trans (x6.trans x5))).ix _ (Nat.lt_of_lt_of_le (Nat.lt_of_lt_of_le (by rw [hj]; exact Nat.lt_succ_self _) x2.le) x1.le), x1.ix _ (Nat.lt_of_lt_of_le (by rw [hj]; exact Nat.lt_succ_self _) x2.le), atD]
                    rw [at5] at h6
                    obtain ⟨x7, s7⟩ := s5.putD (kvs' := putM kvs k yw) (ps := putK ps k y) ea (rk6.put k r5)
                    refine ⟨ps, k, keyOf_ok ek r6, h6, by rw [rk6.len]; exact hz, c5.put g1.length (.dK (putK ps k y)), _, ?_, x04.trans (x6.trans (x5.trans x7)), s7, ((l4.ext x6).ext x5).ext x7, Post.ext p5 x7⟩
                    show upd c5.H (c5.at_ g1.length) _ = _
                    rw [at5]
                  · rw [if_neg hz] at p5; exact p5.elim
              | _ => exact p5.elim
theorem se_dc {ifs : List Expr} {scope : Scope} {own : List (Str × Nat)} {it : MS → MH → R MI} {g : GM} {t : TM} {mk m : EM} {kx vx : Expr} (hc : X.calm = true) (hN : X.N.Nodup) (hi : SI X Wx tg iter it) (Lk : LcP X tg kx ifs scope own g t mk) (L : LcP X tg vx ifs scope own g t m)
    (hs : ∀ x, foldedSetIterable iter X.env x = pure x := by intro _; rfl) : SE X Wx (.DictComp kx vx [⟨tg, iter, ifs, 0⟩] scope pos) (eDc it (own.map (·.2)) g t mk m) :=
  ⟨pe_imp (pe_dc (g := gSim X.K (own.map (·.2)) g) (tt := tSimT X.K W0 t) (tk := tSim X.K W0 mk) (tv := tSim X.K W0 m) hc hN hi.pi L.ok (fun s H C cl fp => (L.g s H C cl fp).pg) (fun s H C cl fp => (L.t s H C cl fp).pts) (fun s H C cl fp => (Lk.e s H C cl fp).pe) (fun s H C cl fp => (L.e s H C cl fp).pe) hs) fun σ H Q q => dc_read q⟩
end
end PM
/-! Sm27: list(range), defaults. -/
namespace PM
open PySem PySem.Spec L2
open PyProof.Rows hiding St
section
variable {X : Cx} {Wx : WX} {a e : Expr} {ma me : EM} {p q pos pos2 : Pos}
def rgW (i j : Int) : List W := (List.range (j - i).toNat).map fun (k : Nat) => W.int (i + k)
theorem rg_rls {K : PySem.W.Frag} {b : Bs} (i j : Int) : Rls K b (rgW i j) (rgV i j) := by
  unfold rgW rgV
  generalize List.range (j - i).toNat = l
  induction l with
  | nil => exact .nil
  | cons k l ih => exact .cons (.int _) ih
def rgOk (i j : Int) : Bool := decide (-(2 ^ 62) ≤ i ∧ i < 2 ^ 62 ∧ -(2 ^ 62) ≤ j ∧ j < 2 ^ 62 ∧ (j - i).toNat ≤ 2 ^ 24)
theorem rgOk_ok {i j : Int} (h : rgOk i j = true) : RgOk i j := by
  have q := of_decide_eq_true h
  exact q
/-- list(range(a)) -/
def eLRg1 (ma : EM) : EM := fun σ h => (ma σ h).bind fun x g => match x with
  | .int n => if rgOk 0 n = true then .ok (.ref g.length) (g ++ [.lst (rgW 0 n)]) else .stuck
  | _ => .stuck
theorem se_listRg1 (hc : X.calm = true) (hgl : Gl X "list") (hml : X.mg "list" = none) (hg : Gl X "range") (hm : X.mg "range" = none) (ha : SE X Wx a ma) (na : starEach [a] X.env = (false, eval a X.env) :: starEach [] X.env := by rfl)
    (nb : starEach [.Call (.Name "range" p) [a] [] pos] X.env = (false, eval (.Call (.Name "range" p) [a] [] pos) X.env) :: starEach [] X.env := by rfl) :
    SE X Wx (.Call (.Name "list" q) [.Call (.Name "range" p) [a] [] pos] [] pos2) (eLRg1 ma) := by
  refine ⟨pe_imp (pe_listRg hc hgl hml (prg_1 hg hm ha.pe na) nb) fun σ H Q ⟨b, h, σm, eH, S, l, q⟩ => ?_⟩
  refine ⟨b, h, σm, eH, S, l, (Post.bind (rel := Rl X.K) q).mono fun x' H1 ⟨c1, x, h1, eH, E1, S1, r1, q1⟩ => ?_⟩
  subst eH
  cases r1 with
  | int n =>
    dsimp only at q1
    by_cases hz : rgOk 0 n = true
    case neg => rw [if_neg hz] at q1; exact q1.elim
    rw [if_pos hz] at q1
    refine ⟨n, rfl, rgOk_ok hz, fun p hp => ?_⟩
    obtain ⟨ex, S2, r2⟩ := S1.pushL hp (rg_rls 0 n)
    exact q1 _ _ ex S2 r2
  | _ => exact q1.elim
def eLRg2 (ma me : EM) : EM := fun σ h => (ma σ h).bind fun x g => (me σ g).bind fun y g2 => match x, y with
  | .int i, .int n => if rgOk i n = true then .ok (.ref g2.length) (g2 ++ [.lst (rgW i n)]) else .stuck
  | _, _ => .stuck
theorem se_listRg2 (hc : X.calm = true) (hgl : Gl X "list") (hml : X.mg "list" = none) (hg : Gl X "range") (hm : X.mg "range" = none) (ha : SE X Wx a ma) (hb : SE X Wx e me) (na : starEach [a, e] X.env = (false, eval a X.env) :: starEach [e] X.env := by rfl)
    (na2 : starEach [e] X.env = (false, eval e X.env) :: starEach [] X.env := by rfl) (hp : (backTo pos (starEach [e] X.env)).any (·.1) = false := by rfl) (nb : starEach [.Call (.Name "range" p) [a, e] [] pos] X.env = (false, eval (.Call (.Name "range" p) [a, e] [] pos) X.env) :: starEach [] X.env := by rfl) :
    SE X Wx (.Call (.Name "list" q) [.Call (.Name "range" p) [a, e] [] pos] [] pos2) (eLRg2 ma me) := by
  refine ⟨pe_imp (pe_listRg hc hgl hml (prg_2 hg hm ha.pe hb.pe na na2 hp) nb) fun σ H Q ⟨b, h, σm, eH, S, l, q⟩ => ?_⟩
  refine ⟨b, h, σm, eH, S, l, (Post.bind (rel := Rl X.K) q).mono fun x' H1 ⟨c1, x, h1, eH, E1, S1, r1, q1⟩ => ?_⟩
  subst eH
  refine ⟨c1, h1, σm, rfl, S1, l.ext E1, (Post.bind (rel := Rl X.K) q1).mono fun y' H2 ⟨c2, y, h2, eH, E2, S2, r2, q2⟩ => ?_⟩
  subst eH
  cases r1 with
  | int i => cases r2 with
    | int n =>
      dsimp only at q2
      by_cases hz : rgOk i n = true
      case neg => rw [if_neg hz] at q2; exact q2.elim
      rw [if_pos hz] at q2
      refine ⟨i, n, rfl, rfl, rgOk_ok hz, fun p hp => ?_⟩
      obtain ⟨ex, S3, r3⟩ := S2.pushL hp (rg_rls i n)
      exact q2 _ _ ex S3 r3
    | _ => exact q2.elim
  | _ => cases r2 <;> exact q2.elim
end
/-! ### defaults: the values by place, out of the positional ones, the keywords', the defaults -/
section
variable {K : PySem.W.Frag} {x qual : Str} {params : Arguments} {body : List Stmt} {scope : Scope} {dvs : List V} {kws : List (Str × V)} {f : Addr} {fd : FuncData} {ps ks : List Str}
theorem kbD_pos (F : FunD K x qual params body scope dvs kws f fd) (np : Nat) (p : List Nat) (dw : List W) (hd : dvs ≠ []) (hdw : ∀ b, Rls K b dw dvs)
    (h : ∀ (T : Addr) (kV doc pm : Value) (an : Option Addr) (cdv ct : Value) (us its ws : List Value), us.length = np → its.length = dvs.length → ws.length = ks.length →
      ∃ k, bindArgs (PySem.W.fnOf x qual params body scope (.ref T) kV doc pm an cdv ct) ⟨us, ks.zip ws⟩ = seqItems? (.ref T) >>= k ∧ k (some its.toArray) = pure (ps.zip (gPerm p (us ++ ws) its))) :
    ∃ g gV, KbG K fd ps ks np g gV (fun us ws => gPerm p (us ++ ws) dw) := by
  obtain ⟨oc, od, dV, kV, doc, pm, an, cdv, ct, osl, rfl, lk, hcd, hD, hK⟩ := F.ex
  rcases hD with ⟨e, _⟩ | ⟨_, T, o, its, m, rfl, lT, oT, rT⟩
  · exact absurd e hd
  · refine ⟨fun us ws => gPerm p (us ++ ws) its, fun vs zs => gPerm p (vs ++ zs) dvs, fun s us ws X l1 l2 _ => ?_, fun r1 r2 => perm_vals (r1.append r2) rT, fun r1 r2 => perm_rls (r1.append r2) (hdw _)⟩
    obtain ⟨k, e1, e2⟩ := h T kV doc pm an cdv ct us its ws l1 rT.length.symm l2
    refine BindsTo.of_looks fun M => ?_
    rw [e1]
    exact looks_items X lT oT (.of_pure e2)
/-- keyword-only defaults alone; ms: those that lack -/
theorem kbD_kwo (F : FunD K x qual params body scope [] kws f fd) (np : Nat) (p : List Nat) (ms : List (Str × V)) (dw : List W) (hk : kws ≠ []) (hms : ∀ q ∈ ms, q ∈ kws) (hdw : ∀ b, Rls K b dw (ms.map (·.2)))
    (h : ∀ (D : Addr) (doc pm : Value) (an : Option Addr) (cdv ct : Value) (us mv ws : List Value), us.length = np → mv.length = ms.length → ws.length = ks.length →
      KwChain D ((ms.map (·.1)).zip mv) (bindArgs (PySem.W.fnOf x qual params body scope .none (.ref D) doc pm an cdv ct) ⟨us, ks.zip ws⟩) (ps.zip (gPerm p (us ++ ws) mv))) :
    ∃ g gV, KbG K fd ps ks np g gV (fun us ws => gPerm p (us ++ ws) dw) := by
  obtain ⟨oc, od, dV, kV, doc, pm, an, cdv, ct, osl, rfl, lk, hcd, hD, hK⟩ := F.ex
  rcases hD with ⟨_, rfl⟩ | ⟨e, _⟩
  · rcases hK with e | ⟨D, rfl, hq⟩
    · exact absurd e hk
    · obtain ⟨mv, hl, rk, hks⟩ := kwd_vals (ms := ms) fun q hm => hq q (hms q hm)
      exact ⟨fun us ws => gPerm p (us ++ ws) mv, fun vs zs => gPerm p (vs ++ zs) (ms.map (·.2)), fun s us ws X l1 l2 _ => BindsTo.of_looks fun M => KwChain.looks X hks (h D doc pm an cdv ct us mv ws l1 hl l2),
        fun r1 r2 => perm_vals (r1.append r2) rk, fun r1 r2 => perm_rls (r1.append r2) (hdw _)⟩
  · exact absurd rfl e
/-- no default is wanted (there may be some) -/
theorem kbD_both (F : FunD K x qual params body scope dvs kws f fd) (np : Nat) (p : List Nat) (ms : List (Str × V)) (dw : List W) (hd : dvs ≠ []) (hk : kws ≠ []) (hms : ∀ q ∈ ms, q ∈ kws) (hdw : ∀ b, Rls K b dw (dvs ++ ms.map (·.2)))
    (h : ∀ (T D : Addr) (doc pm : Value) (an : Option Addr) (cdv ct : Value) (us its mv ws : List Value), us.length = np → its.length = dvs.length → mv.length = ms.length → ws.length = ks.length →
      ∃ k, bindArgs (PySem.W.fnOf x qual params body scope (.ref T) (.ref D) doc pm an cdv ct) ⟨us, ks.zip ws⟩ = seqItems? (.ref T) >>= k ∧ KwChain D ((ms.map (·.1)).zip mv) (k (some its.toArray)) (ps.zip (gPerm p (us ++ ws) (its ++ mv)))) :
    ∃ g gV, KbG K fd ps ks np g gV (fun us ws => gPerm p (us ++ ws) dw) := by
  obtain ⟨oc, od, dV, kV, doc, pm, an, cdv, ct, osl, rfl, lk, hcd, hD, hK⟩ := F.ex
  rcases hD with ⟨e, _⟩ | ⟨_, T, o, its, m, rfl, lT, oT, rT⟩
  · exact absurd e hd
  · rcases hK with e | ⟨D, rfl, hq⟩
    · exact absurd e hk
    · obtain ⟨mv, hl, rk, hks⟩ := kwd_vals (ms := ms) fun q hm => hq q (hms q hm)
      refine ⟨fun us ws => gPerm p (us ++ ws) (its ++ mv), fun vs zs => gPerm p (vs ++ zs) (dvs ++ ms.map (·.2)), fun s us ws X l1 l2 _ => ?_, fun r1 r2 => perm_vals (r1.append r2) (rT.append rk), fun r1 r2 => perm_rls (r1.append r2) (hdw _)⟩
      obtain ⟨k, e1, e2⟩ := h T D doc pm an cdv ct us its mv ws l1 rT.length.symm hl l2
      refine BindsTo.of_looks fun M => ?_
      rw [e1]
      exact looks_items X lT oT (KwChain.looks X hks e2)
end
end PM
/-! Sm28: {**a, **b}. -/
namespace PM
open PySem PySem.Spec L2
open PyProof.Rows hiding St
section
variable {prog : Program} {w : World} {K : Type} [DecidableEq K] {knd : KeyKind prog w K} {A : Around} {E : Value → Shared → Prop} {s : Shared} {d : Addr} {kvs : List (K × Value)}
/-- an entry laid by a display -/
theorem put_pairs {k : K} {key v : Value} {Q : Unit → Shared → Prop} (hk : knd.is k key = true) (hm : s.heap.DictOf knd d kvs) (hz : kvs.length ≤ sizeLine)
    (h : ∀ g, g.DictOf knd d (stored kvs k v) → Heap.SameBut d s.heap g → Q () { s with heap := g }) : wpAny (model prog w) A (dictPut d (knd.hash k) key v) Q E s := by
  obtain ⟨o, es, ep, ho, hc, hd, hks, hp, hn⟩ := hm
  have hes : es.size ≤ sizeLine := by
    have := hp.length
    rw [Array.length_toList] at this
    omega
  unfold dictPut
  refine wpAny_bind (wpAny_dictFind_of hk ho hd hks ?_)
  have ix : (es.findIdx? fun u => knd.is k u.key) = kvs.findIdx? fun kv => decide (kv.1 = k) := by
    rw [← hp.findIdx k]
    obtain ⟨l⟩ := es
    simp
  cases hi : es.findIdx? fun u => knd.is k u.key with
  | some i =>
    refine wpAny_updateDict ho hd (h _ ⟨_, _, ep, Heap.get?_update_self _ ho (Obj.isFreed_of_dict (Obj.data_mapDict hd _)), hc.mapDict _, Obj.data_mapDict hd _, hks.modify _ _, ?_, ?_⟩ (Heap.SameBut.update ..))
    all_goals rw [stored, if_pos (any_of_findIdx_some (ix ▸ hi))]
    · have li : (es.toList.findIdx? fun u => knd.is k u.key) = some i := by
        rw [← hi]
        obtain ⟨l⟩ := es
        simp
      have q := hp.modify hn li v
      obtain ⟨l⟩ := es
      simpa using q
    · rw [keys_map_store]; exact hn
  | none =>
    have no : k ∉ kvs.map (·.1) := not_mem_of_findIdx_none (ix ▸ hi)
    have na : ¬ (kvs.any fun kv => decide (kv.1 = k)) = true := fun z => by
      obtain ⟨kv, h1, h2⟩ := List.any_eq_true.mp z
      exact no (List.mem_map.mpr ⟨kv, h1, of_decide_eq_true h2⟩)
    refine wpAny_updateDictKeys (hz := hes) ho hd (h _ ⟨_, _, ep + 1, Heap.get?_update_self _ ho (Obj.isFreed_of_dict (Obj.data_mapDictKeys hd _)), hc.mapDictKeys _, Obj.data_mapDictKeys hd _, hks.push hk _, ?_, ?_⟩ (Heap.SameBut.update ..))
    all_goals rw [stored, if_neg na]
    · have q := hp.append hk (knd.hash k) v
      obtain ⟨l⟩ := es
      simpa using q
    · rw [List.map_append, List.nodup_append]
      refine ⟨hn, by simp, fun a ha c hc => ?_⟩
      rw [List.map_singleton, List.mem_singleton] at hc
      have hc : c = k := hc
      exact fun z => no (hc ▸ z ▸ ha)
/-- **m, m a dict of plain keys -/
theorem merge_map {o : Addr} {more : List (K × Value)} {Q : Unit → Shared → Prop} (ne : d ≠ o) (lo : (o == sysModules) = false) (hd : s.heap.DictOf knd d kvs) (ho : s.heap.DictOf knd o more) (hpl : ∀ k a, knd.is k (.ref a) = false) (hz : kvs.length + more.length ≤ sizeLine)
    (h : ∀ g, g.DictOf knd d (merged kvs more) → Heap.SameBut d s.heap g → Q () { s with heap := g }) : wpAny (model prog w) A (mergeMapping d (.ref o) false) Q E s := by
  obtain ⟨od, esd, epd, hod, hcd, hdd, hkd, hpd, hnd⟩ := id hd
  obtain ⟨oo, eso, epo, hoo, hco, hdo, hko, hpo, hno⟩ := id ho
  unfold mergeMapping
  have ln : more.length = eso.size := by rw [← hpo.length, Array.length_toList]
  have loop : ∀ (body : Nat → PUnit → Sem (ForInStep PUnit)),
      (∀ (i : Nat) (hi : i < eso.size) (g : Heap) (R : ForInStep PUnit → Shared → Prop), g.DictOf knd d (merged kvs (more.take i)) → g.get? o = some oo →
        (∀ g', g'.DictOf knd d (merged kvs (more.take (i + 1))) → g'.get? o = some oo → Heap.SameBut d g g' → R (.yield ⟨⟩) { s with heap := g' }) → wpAny (model prog w) A (body i ⟨⟩) R E { s with heap := g }) →
      wpAny (model prog w) A (forIn (List.range eso.size) PUnit.unit body) (fun _ s' => ∃ g, s' = { s with heap := g } ∧ g.DictOf knd d (merged kvs more) ∧ Heap.SameBut d s.heap g) E s := by
    intro body hb
    refine wpAny_forIn_list _ (fun rest _ s' => ∃ g i, s' = { s with heap := g } ∧ rest = (List.range eso.size).drop i ∧ i ≤ eso.size ∧ g.DictOf knd d (merged kvs (more.take i)) ∧ g.get? o = some oo ∧ Heap.SameBut d s.heap g) _ ?_ ?_ _ _
      ⟨s.heap, 0, rfl, rfl, Nat.zero_le _, by simpa [merged] using hd, hoo, Heap.SameBut.refl _ _⟩
    · rintro x rest u s' ⟨g, i, rfl, hr, hi, hg, ho', hs⟩
      have lt : i < eso.size := by
        rcases Nat.lt_or_ge i eso.size with z | z
        · exact z
        · rw [List.drop_eq_nil_of_le (by simpa using z)] at hr; cases hr
      rw [List.drop_eq_getElem_cons (by simpa using lt)] at hr
      injection hr with e1 e2
      rw [List.getElem_range] at e1
      subst e1
      refine hb x lt g _ hg ho' fun g' h1 h2 h3 => ⟨g', x + 1, rfl, e2, lt, h1, h2, hs.trans h3⟩
    · rintro u s' ⟨g, i, rfl, hr, hi, hg, ho', hs⟩
      have e : i = eso.size := by
        rcases Nat.lt_or_ge i eso.size with z | z
        · rw [List.drop_eq_getElem_cons (by simpa using z)] at hr; cases hr
        · omega
      rw [e, ← ln, List.take_length] at hg
      exact ⟨g, rfl, hg, hs⟩
  refine wpAny_bind (m := isInstance (.ref o) (.type "dict")) (wpAny_isInstance ho.typeIs isSubtype_dict_dict ?_)
  simp only [if_true]
  refine wpAny_bind (wpAny_specialOf ho.typeIs F.slot_dict_iter.lookup ?_)
  refine wpAny_bind (wpAny_pure ?_)
  simp only [beq_self_eq_true]
  rw [if_neg (by rw [lo]; exact Bool.false_ne_true)]
  have main : wpAny (model prog w) A (do
      let l ← dictEntries o
      let epoch ← dictEpoch o
      forIn (List.range l.size) PUnit.unit fun i (_ : PUnit) => (do
          let l2 ← dictEntries o
          match l2[i]? with
            | some e => do
              holding [e.key, e.val] (dictPut d e.hash e.key e.val)
              let ep2 ← dictEpoch o
              if (ep2 != epoch) = true then do
                  (unsupported "dict.changed-during-merge" : Sem PUnit)
                  pure (ForInStep.yield PUnit.unit)
                else pure (ForInStep.yield PUnit.unit)
            | _ => do
              (unsupported "dict.changed-during-merge" : Sem PUnit)
              pure (ForInStep.yield PUnit.unit) : Sem (ForInStep PUnit))
      pure ()) Q E s := by
    refine wpAny_bind (wpAny_dictEntries hoo hdo ?_)
    refine wpAny_bind (wpAny_dictEpoch hoo hdo ?_)
    refine wpAny_bind (wpAny_mono (loop _ fun i hi g R hg ho' hR => ?_) (fun _ s' ⟨g, e1, h1, h2⟩ => by subst e1; exact wpAny_pure (h g h1 h2)) fun _ _ z => z)
    refine wpAny_bind (wpAny_dictEntries ho' hdo ?_)
    rw [Array.getElem?_eq_getElem hi]
    obtain ⟨⟨k, v⟩, hkv⟩ : ∃ kv, more[i]? = some kv := ⟨more[i]'(by rw [ln]; exact hi), List.getElem?_eq_getElem _⟩
    obtain ⟨q1, q2⟩ := hpo.get? (e := eso[i]) (by simp [hi]) hkv
    obtain ⟨k', q3, q4⟩ := hko eso[i] (Array.getElem_mem hi)
    obtain rfl : k' = k := knd.inj _ _ _ q3 q1
    dsimp only
    rw [q4, q2]
    have lz : (merged kvs (more.take i)).length ≤ sizeLine := by
      have e1 := merged_length_le kvs (more.take i)
      have e2 : (more.take i).length ≤ more.length := by rw [List.length_take]; omega
      omega
    refine wpAny_bind (wpAny_holding (put_pairs q1 hg lz fun g' h1 h2 => ?_))
    have ho2 : g'.get? o = some oo := (h2.2 o (Ne.symm ne)).trans ho'
    refine wpAny_bind (wpAny_dictEpoch ho2 hdo ?_)
    rw [if_neg (by simp)]
    exact wpAny_pure (hR g' (by rw [merged_take_succ kvs more i (k', v) hkv]; exact h1) ho2 h2)
  refine wpAny_bind (wpAny_dictEntries hod hdd ?_)
  split
  · refine wpAny_bind (wpAny_dictEntries hoo hdo ?_)
    refine wpAny_bind (wpAny_mono (Q := fun _ s' => s' = s) ?_ (fun _ s' e => by subst e; exact main) fun _ _ z => z)
    rw [← Array.forIn_toList]
    refine wpAny_forIn_list _ (fun rest _ s' => s' = s ∧ ∀ e ∈ rest, e ∈ eso.toList) _ ?_ (fun _ _ z => z.1) _ _ ⟨rfl, fun e he => he⟩
    rintro x rest u s' ⟨rfl, hx⟩
    obtain ⟨k', q3, _⟩ := hko x (Array.mem_toList_iff.mp (hx x List.mem_cons_self))
    cases ek : x.key with
    | ref a => rw [ek, hpl] at q3; cases q3
    | _ => exact wpAny_pure ⟨rfl, fun e he => hx e (List.mem_cons_of_mem _ he)⟩
  · exact main
end
section
variable {X : Cx} {Wx : WX} {a c : Expr} {ma mc : EM} {pos : Pos}
/-- {**a, **b} -/
def eMrg (ma mc : EM) : EM := fun σ h => (ma σ (h ++ [.dct []])).bind fun x h1 => match x with
  | .ref i => match h1[h.length]?, h1[i]? with
    | some (.dct kvs), some (.dct more) => if i ≠ h.length ∧ kvs.length + more.length ≤ sizeLine then
        (mc σ (h1.set h.length (.dct (mergeM kvs more)))).bind fun y h2 => match y with
          | .ref j => match h2[h.length]?, h2[j]? with
            | some (.dct kws), some (.dct mors) => if j ≠ h.length ∧ kws.length + mors.length ≤ sizeLine then .ok (.ref h.length) (h2.set h.length (.dct (mergeM kws mors))) else .stuck
            | _, _ => .stuck
          | _ => .stuck
        else .stuck
    | _, _ => .stuck
  | _ => .stuck
theorem mixNoRef {P : Program} {w : World} : ∀ (k : Key) (a : Addr), (mixKind P w).is k (.ref a) = false := fun k a => by
  cases k <;> rfl
theorem mrg_at {pins : List (Addr × Obj)} {σ : L2.St} {b : Bs} {h : MH} {s : Shared} {i j : Nat} {kvs more : List (Key × W)} {Q : Unit → Shared → Prop} {E : Value → Shared → Prop} (I : Inv X pins σ b.H s) (S : Sim X.K b h) (ei : h[i]? = some (.dct kvs)) (ej : h[j]? = some (.dct more)) (ne : j ≠ i) (hz : kvs.length + more.length ≤ sizeLine)
    (q : ∀ c s', PM.Ext X.K b c → Sim X.K c (h.set i (.dct (mergeM kvs more))) → Inv X pins σ c.H s' → Q () s') : wpAny (model X.prog X.w) X.A (mergeMapping (b.at_ i) (.ref (b.at_ j)) false) Q E s := by
  obtain ⟨ps, h1, rk, _⟩ := S.dict ei
  obtain ⟨qs, h2, rl, _⟩ := S.dict ej
  have na : b.at_ i ≠ b.at_ j := fun z => ne (S.inj i j _ _ ei ej rfl rfl z).symm
  obtain ⟨z1, lo1, xs, kx, dx⟩ := dk_of I.hok h1
  obtain ⟨z2, lo2, ys, ky, dy⟩ := dk_of I.hok h2
  obtain ⟨ex, S2⟩ := S.putD ei (rl.merge rk)
  have hl : xs.length + ys.length ≤ sizeLine := by rw [← kx.length, ← ky.length, rk.len, rl.len]; exact hz
  refine merge_map (knd := mixKind X.prog X.w) na lo2 dx dy mixNoRef hl fun g dg hs => ?_
  have he : ∃ q, g.get? (b.at_ i) = some q := let ⟨q, _, _, hq, _⟩ := dg; ⟨q, hq⟩
  have hm : (mergeK ps qs).length ≤ sizeLine := by
    have := length_mergeK qs ps
    have := rk.len
    have := rl.len
    omega
  exact q _ _ ex S2 (d_write (t' := s.toks) I (by rw [h1]; exact True.intro) hs he (dk_new hm lo1 (KV_merged kx ky) dg))
theorem wrapped' {M : Model} {A : Around} {E : Value → Shared → Prop} {s : Shared} {m : Sem Unit} {l : List Value} {f g k : Value → Sem Unit} {Q : Unit → Shared → Prop} (h : wpAny M A m Q (fun _ _ => False) s) : wpAny M A ((((holding l m).onRaise f).tryCatch g).onRaise k) Q E s := by
  refine wpAny_onRaise (wpAny_tryCatch (wpAny_onRaise (wpAny_mono (wpAny_holding h) (fun _ _ z => z) fun _ _ z => z.elim)))
theorem se_mrg (ha : SE X Wx a ma) (hc : SE X Wx c mc) : SE X Wx (.Dict [none, none] [a, c] pos) (eMrg ma mc) := by
  refine ⟨⟨fun pins s σ H Q I q => ?_⟩⟩
  obtain ⟨b, h, σm, rfl, S, l, q⟩ := q
  rw [arm_eval_Dict]
  refine wpAny_bind (wpAny_standAt ?_)
  show wpAny _ _ (dictDisplay [(none, do let x ← eval a X.env; standAt pos; pure x), (none, do let x ← eval c X.env; standAt pos; pure x)]) _ _ _
  unfold dictDisplay
  simp only [List.forIn_cons, List.forIn_nil, List.isEmpty_nil, if_true]
  refine wpAny_bind (wpAny_bind (wpAny_bind (wpAny_pure ?_)))
  refine wpAny_bind (wpAny_alloc ?_)
  have hp : b.H s.heap.objs.size = none := I.fresh
  obtain ⟨ex, S1, r1⟩ := S.pushD2 hp (kvs := []) (ps := []) .nil
  have I1 : Inv X pins σ (upd b.H s.heap.objs.size (.dK [])) { s with heap := s.heap.push { cls := .type "dict", data := .dict #[] } } := I.laid (t' := s.toks) (fun _ _ q => Heap.get?_push_of_some _ q) (Nat.le_refl _) (dk_empty s.heap I.big)
  refine wpAny_bind (wpAny_holding (wpAny_bind (wpAny_mono (ha.run I1 S1 (l.ext ex) (Post.bind (rel := Rl X.K) (Post.ext q ex))) (fun u s2 ⟨x, H1, I2, rx, c1, wx, h1, e1, E1, S2, rw, q1⟩ => ?_) fun _ _ z => z)))
  subst e1
  have atn : ∀ {c2 : Bs}, PM.Ext X.K (b.push s.heap.objs.size (.dK [])) c2 → c2.at_ h.length = s.heap.objs.size := fun {c2} x => by
    have hl : h.length = b.n := S.len.symm
    rw [x.ix h.length (by rw [hl]; exact Nat.lt_succ_self _), hl]
    exact Bs.push_at _ _ _
  refine wpAny_bind (wpAny_standAt (wpAny_pure ?_))
  cases rw with
  | ref i hi =>
    dsimp only at q1
    split at q1
    · rename_i kvs more ei ej
      by_cases hz : i ≠ h.length ∧ kvs.length + more.length ≤ sizeLine
      case neg => rw [if_neg hz] at q1; exact q1.elim
      rw [if_pos hz] at q1
      cases rx
      refine wpAny_bind (wrapped' ?_)
      rw [← atn E1]
      refine mrg_at I2 S2 ei ej hz.1 hz.2 fun c2 s3 E2 S3 I3 => ?_
      refine wpAny_pure (wpAny_bind (wpAny_bind (wpAny_pure (wpAny_bind (wpAny_pure ?_)))))
      have l2 := (l.ext ex).ext (E1.trans E2)
      refine wpAny_bind (wpAny_holding (wpAny_bind (wpAny_mono (hc.run I3 S3 l2 (Post.bind (rel := Rl X.K) (Post.ext q1 E2))) (fun u s4 ⟨y, H2, I4, ry, c3, wy, h2, e2, E3, S4, rw2, q2⟩ => ?_) fun _ _ z => z)))
      subst e2
      refine wpAny_bind (wpAny_standAt (wpAny_pure ?_))
      cases rw2 with
      | ref j hj =>
        dsimp only at q2
        split at q2
        · rename_i kws mors ek em
          by_cases hy : j ≠ h.length ∧ kws.length + mors.length ≤ sizeLine
          case neg => rw [if_neg hy] at q2; exact q2.elim
          rw [if_pos hy] at q2
          cases ry
          have E13 := E1.trans (E2.trans E3)
          refine wpAny_bind (wrapped' ?_)
          rw [atn E1, ← atn E13]
          refine mrg_at I4 S4 ek em hy.1 hy.2 fun c4 s5 E4 S5 I5 => ?_
          refine wpAny_pure (wpAny_pure (wpAny_bind (wpAny_pure (wpAny_pure ?_))))
          have r5 : Rl X.K c4 (.ref h.length) (.ref (c3.at_ h.length)) := by
            have r0 := (r1.ext E13).ext E4
            rw [atn E13]
            exact r0
          exact ⟨.ref (c3.at_ h.length), c4.H, I5, rfl, q2 _ _ E4 S5 r5⟩
        · exact q2.elim
      | _ => exact q2.elim
    · exact q1.elim
  | _ => exact q1.elim
end
end PM
/-! Sm29: what the head tells: facts of the text, defs at any address. -/
namespace PM
open PySem PySem.Spec L2
open PyProof.Rows hiding St
abbrev Ad := PySem.W.Frag → Addr
def adG (x : Str) : Ad := fun K => He.ga K x
def adM (C m : Str) : Ad := fun K => He.ma K (He.ga K C) m
/-- a property's own object, its getter -/
def adP (C f : Str) : Ad := fun K => He.ma K (He.ga K C) f
def adGet (C f : Str) : Ad := fun K => match PySem.W.recIn K (adP C f K) "property" with
  | some (.ref g :: _) => g
  | _ => 0
structure DefA where
  ad : Ad
  name : Str
  qual : Str
  params : Arguments
  body : List Stmt
  scope : Scope
  dfl : List He.Dv := []
  kwd : List (Str × He.Dv) := []
def seenF (K : PySem.W.Frag) (a : Addr) : He.FnW := match K.lookup a with
  | some ⟨_, _, .func u, _⟩ => some (u.name, u.qualname, u.params, u.body, u.scope, u.globals, u.closure, u.builtins)
  | _ => none
def DefA.tells (d : DefA) : He.FnW := some (d.name, d.qual, d.params, .stmts d.body, d.scope, mainGlobals, [], builtinsNs)
def DefA.dvs (K : PySem.W.Frag) (d : DefA) : List V := d.dfl.map (He.Dv.v K)
def DefA.kws (K : PySem.W.Frag) (d : DefA) : List (Str × V) := d.kwd.map fun q => (q.1, q.2.v K)
def DefA.good (K : PySem.W.Frag) (d : DefA) : Bool := (match K.lookup (d.ad K) with
  | some ⟨_, _, .func u, _⟩ => He.dflB K u.defaults (d.dvs K) && (He.kwdB K u.kwdefaults (d.kws K) && PySem.W.codeIn K u.code d.qual)
  | _ => false) && PySem.W.keepIn K (.ref (d.ad K))
theorem DefA.funD {K : PySem.W.Frag} {d : DefA} (e : seenF K (d.ad K) = d.tells) (c : d.good K = true) : ∃ fd, FunD K d.name d.qual d.params d.body d.scope (d.dvs K) (d.kws K) (d.ad K) fd := by
  obtain ⟨c1, kp⟩ := Bool.and_eq_true_iff.mp c
  unfold seenF at e
  unfold DefA.tells at e
  cases q : K.lookup (d.ad K) with
  | none => rw [q] at e; cases e
  | some o =>
    obtain ⟨oc, od, dt, osl⟩ := o
    rw [q] at c1 e
    cases dt with
    | func u =>
      obtain ⟨z1, z2, z3, z4, z5, z6, z7, z8, z9, z10, z11, z12, z13, z14, z15⟩ := u
      simp only [Option.some.injEq, Prod.mk.injEq] at e
      obtain ⟨rfl, rfl, rfl, rfl, rfl, rfl, rfl, rfl⟩ := e
      obtain ⟨k1, k2⟩ := Bool.and_eq_true_iff.mp c1
      obtain ⟨k3, k4⟩ := Bool.and_eq_true_iff.mp k2
      exact ⟨_, ⟨oc, od, z8, z9, z10, z11, z12, z13, z14, osl, rfl, q, k4, He.dflB_ok k1, He.kwdB_ok k3⟩, kp⟩
    | _ => cases e
abbrev AlA : Type := Bool × List He.FnW
def obsA (ex : PySem.W.Frag → Bool) (fn : List DefA) (K : PySem.W.Frag) : AlA := (ex K && fn.all fun d => d.good K, fn.map fun d => seenF K (d.ad K))
def valA (fn : List DefA) : AlA := (true, fn.map DefA.tells)
def SaysA (ex : PySem.W.Frag → Bool) (fn : List DefA) (K : PySem.W.Frag) : Prop := obsA ex fn K = valA fn
def obsAG (n : Nat) (ex : PySem.W.Frag → Bool) (fn : List DefA) (g : Addr → Option Obj) : AlA := obsA ex fn (He.frG g (He.asD g n))
def hookA (n : Nat) (ex : PySem.W.Frag → Bool) (fn : List DefA) : PySem.W.Hook where
  α := AlA
  obs := fun s => obsAG n ex fn s.heap.get?
  val := fun _ => valA fn
  says := fun _ h => ∃ K : PySem.W.Frag, K.In h ∧ SaysA ex fn K
  of := fun _ _ e => ⟨_, He.frG_in, e⟩
  keeps := fun _ _ _ ⟨K, hK, c⟩ k => ⟨K, PySem.W.Frag.In.keeps hK k, c⟩
theorem obsAG_eq {n : Nat} {ex : PySem.W.Frag → Bool} {fn : List DefA} {g : Addr → Option Obj} {s : Shared} (h : ∀ a, g a = s.heap.get? a) : obsAG n ex fn g = (hookA n ex fn).obs s := by
  obtain rfl : g = s.heap.get? := funext h
  rfl
section
variable {ex : PySem.W.Frag → Bool} {fn : List DefA} {K : PySem.W.Frag}
theorem SaysA.fact (c : SaysA ex fn K) : ex K = true := (Bool.and_eq_true_iff.mp (show (ex K && fn.all fun d => d.good K) = true from congrArg (fun z : AlA => z.1) c)).1
theorem SaysA.def_ (c : SaysA ex fn K) (i : Nat) {d : DefA} (h : fn[i]? = some d := by rfl) : ∃ fd, FunD K d.name d.qual d.params d.body d.scope (d.dvs K) (d.kws K) (d.ad K) fd := by
  have c2 := (Bool.and_eq_true_iff.mp (show (ex K && fn.all fun d => d.good K) = true from congrArg (fun z : AlA => z.1) c)).2
  have e : fn.map (fun d => seenF K (d.ad K)) = fn.map DefA.tells := congrArg (fun z : AlA => z.2) c
  have e2 := congrArg (fun l : List He.FnW => l[i]?) e
  simp only [List.getElem?_map, h, Option.map_some] at e2
  exact DefA.funD (Option.some.inj e2) (List.all_eq_true.mp c2 d (List.mem_of_getElem? h))
end
/-! ### facts -/
def propB (K : PySem.W.Frag) (C f : Str) : Bool := He.eqO (PySem.W.findIn K (.ref (He.ga K C)) f) (some (some (.ref (adP C f K)))) && (He.eqO (PySem.W.specialIn K (.ref (adP C f K)) "__get__") (some (some (.builtin "property.__get__"))) &&
  (decide (PySem.W.takesIn K (.ref (adP C f K)) = some true) && (match PySem.W.recIn K (adP C f K) "property" with
    | some (.ref _ :: _) => true
    | _ => false)))
theorem propB_ok {K : PySem.W.Frag} {C f : Str} (h : propB K C f = true) : PropOf K (He.ga K C) f (adP C f K) (adGet C f K) := by
  unfold propB at h
  simp only [Bool.and_eq_true, decide_eq_true_eq] at h
  obtain ⟨h1, h2, h3, h4⟩ := h
  refine ⟨He.eqO_ok h1, He.eqO_ok h2, h3, ?_⟩
  unfold adGet
  split at h4
  · rename_i g r e
    exact ⟨r, by rw [e]⟩
  · cases h4
/-- a method that a slot finds -/
def sltB (K : PySem.W.Frag) (C m : Str) : Bool := He.eqO (PySem.W.findIn K (.ref (He.ga K C)) m) (some (some (.ref (adM C m K)))) && PySem.W.isFn K (.ref (adM C m K))
theorem sltB_ok {K : PySem.W.Frag} {C m : Str} (h : sltB K C m = true) : PySem.W.findIn K (.ref (He.ga K C)) m = some (some (.ref (adM C m K))) ∧ PySem.W.isFn K (.ref (adM C m K)) = true := by
  obtain ⟨h1, h2⟩ := Bool.and_eq_true_iff.mp h
  exact ⟨He.eqO_ok h1, h2⟩
def neB (K : PySem.W.Frag) (C : Str) : Bool := He.eqO (PySem.W.findIn K (.ref (He.ga K C)) "__ne__") (some (some (.builtin "object.__ne__")))
def nfB (K : PySem.W.Frag) (C : Str) (nf : List Kd) : Bool := nf.all fun t => PySem.W.notFirst K (He.ga K C) (t.v K)
theorem nfB_ok {K : PySem.W.Frag} {C : Str} {nf : List Kd} (h : nfB K C nf = true) : ∀ t ∈ nf, PySem.W.notFirst K (He.ga K C) (t.v K) = true := List.all_eq_true.mp h
theorem andB {a b : Bool} (h : (a && b) = true) : a = true ∧ b = true := Bool.and_eq_true_iff.mp h
theorem allB {α : Type} {l : List α} {p : α → Bool} (h : l.all p = true) (i : Nat) {a : α} (e : l[i]? = some a := by rfl) : p a = true := List.all_eq_true.mp h a (List.mem_of_getElem? e)
/-- facts listed by kind -/
inductive Fq where
  | fa (f : He.Fa) | own (C : Str) | prop (C f : Str) | slt (C m : Str) | ne (C : Str) | nf (C : Str) (l : List Kd) | tb (t : IsT)
def Fq.ok (K : PySem.W.Frag) : Fq → Bool
  | .fa f => f.ok K
  | .own C => ownCB K C
  | .prop C f => propB K C f
  | .slt C m => sltB K C m
  | .ne C => neB K C
  | .nf C l => nfB K C l
  | .tb t => tbB K t
def exL (l : List Fq) (K : PySem.W.Frag) : Bool := l.all fun f => f.ok K
theorem SaysA.fq {l : List Fq} {fn : List DefA} {K : PySem.W.Frag} (c : SaysA (exL l) fn K) (i : Nat) {f : Fq} (e : l[i]? = some f := by rfl) : f.ok K = true := allB (show l.all (fun f => f.ok K) = true from c.fact) i e
end PM
/-! Sm30: operators by the kind of what stands there. -/
namespace PM
open PySem PySem.Spec L2
open PyProof.Rows hiding St
section
variable {X : Cx} {Wx : WX}
theorem ac_nil {P : Str → Prop} : ∀ C ∈ ([] : List Str), P C := fun _ h => nomatch h
theorem ac_cons {P : Str → Prop} {C : Str} {l : List Str} (h : P C) (t : ∀ C ∈ l, P C) : ∀ D ∈ C :: l, P D := fun D hD => (List.mem_cons.mp hD).elim (fun e => e ▸ h) (t D)
theorem os_or2 {f : Value → Value → Sem Value} {m n k : W → W → MH → R W} (a : OpS X Wx f m) (c : OpS X Wx f n) (h : ∀ x y g, k x y g = m x y g ∨ k x y g = n x y g) : OpS X Wx f k := ⟨fun pins s σ b g x y x' y' v u Q I S r1 r2 rv ru q => by
  rcases h x y g with z | z
  · exact a.run pins s σ b g x y x' y' v u Q I S r1 r2 rv ru (by rw [← z]; exact q)
  · exact c.run pins s σ b g x y x' y' v u Q I S r1 r2 rv ru (by rw [← z]; exact q)⟩
theorem os_no {f : Value → Value → Sem Value} : OpS X Wx f (fun _ _ _ => .stuck) := ⟨fun pins s σ b g x y x' y' v u Q I S r1 r2 rv ru q => q.elim⟩
theorem cs_or2 {f : Value} {m n k : List W → MH → R W} (a : CallS X Wx f m) (c : CallS X Wx f n) (h : ∀ ws g, k ws g = m ws g ∨ k ws g = n ws g) : CallS X Wx f k := ⟨fun pins s σ b g ws vs us Q I S r rv q => by
  rcases h ws g with z | z
  · exact a.run pins s σ b g ws vs us Q I S r rv (by rw [← z]; exact q)
  · exact c.run pins s σ b g ws vs us Q I S r rv (by rw [← z]; exact q)⟩
theorem cs_no {f : Value} : CallS X Wx f (fun _ _ => .stuck) := ⟨fun pins s σ b g ws vs us Q I S r rv q => q.elim⟩
/-- a part that is never reached -/
theorem se_never {e : Expr} : SE X Wx e (fun _ _ => .stuck) := ⟨⟨fun pins s σ H Q I ⟨_, _, _, _, _, _, q⟩ => q.elim⟩⟩
theorem s1_never {st : Stmt} : SS X Wx st sStuck := ⟨⟨fun pins s σ H D I ⟨_, _, _, _, _, _, q⟩ => q.elim⟩⟩
abbrev noOp : W → W → MH → R W := fun _ _ _ => .stuck
abbrev noCl : List W → MH → R W := fun _ _ => .stuck
/-- by what stands at x: a dict, an instance, another thing -/
def byK {α : Type} (x : W) (h : MH) (d i o : α) : α := match x with
  | .ref j => match h[j]? with
    | some (.dct _) => d
    | some (.lck _) => d
    | some (.ins _ _) => i
    | _ => o
  | _ => o
theorem byK_or {α : Type} (x : W) (h : MH) (d i o : α) : byK x h d i o = d ∨ byK x h d i o = i ∨ byK x h d i o = o := by
  unfold byK
  split
  · split
    · exact .inl rfl
    · exact .inl rfl
    · exact .inr (.inl rfl)
    · exact .inr (.inr rfl)
  · exact .inr (.inr rfl)
def bEqX (i : W → W → MH → R W) : W → W → MH → R W := fun x y h => byK x h (bEqD false) i bEq x y h
def bNeX (i : W → W → MH → R W) : W → W → MH → R W := fun x y h => byK x h (bEqD true) i bNe x y h
def bInX (neg : Bool) (i : W → W → MH → R W) : W → W → MH → R W := fun x y h => byK y h (bDin neg) i (inG neg) x y h
def bLenX (i : List W → MH → R W) (ws : List W) (h : MH) : R W := match ws with
  | [x] => byK x h bLen i bLen [x] h
  | _ => .stuck
theorem os_byK {f : Value → Value → Sem Value} {d i o k : W → W → MH → R W} (hd : OpS X Wx f d) (hi : OpS X Wx f i) (ho : OpS X Wx f o) (h : ∀ x y g, k x y g = d x y g ∨ k x y g = i x y g ∨ k x y g = o x y g) : OpS X Wx f k := ⟨fun pins s σ b g x y x' y' v u Q I S r1 r2 rv ru q => by
  rcases h x y g with z | z | z
  · exact hd.run pins s σ b g x y x' y' v u Q I S r1 r2 rv ru (by rw [← z]; exact q)
  · exact hi.run pins s σ b g x y x' y' v u Q I S r1 r2 rv ru (by rw [← z]; exact q)
  · exact ho.run pins s σ b g x y x' y' v u Q I S r1 r2 rv ru (by rw [← z]; exact q)⟩
theorem byK_ap {α β : Type} (x : W) (h : MH) (d i o : α → β) (a : α) : byK x h d i o a = byK x h (d a) (i a) (o a) := by
  unfold byK
  cases x with
  | ref j =>
    dsimp only
    cases h[j]? with
    | none => rfl
    | some u => cases u <;> rfl
  | _ => rfl
theorem os_eqX {k : Nat} {i : W → W → MH → R W} (hr : Room k X.A) (hi : OpS X Wx (compareOp .Eq) i) : OpS X Wx (compareOp .Eq) (bEqX i) := os_byK (os_eqD hr) hi (os_eq hr) fun x y g => by
  unfold bEqX
  rw [byK_ap, byK_ap, byK_ap]; exact byK_or ..
theorem os_neX {k : Nat} {i : W → W → MH → R W} (hr : Room k X.A) (hi : OpS X Wx (compareOp .NotEq) i) : OpS X Wx (compareOp .NotEq) (bNeX i) := os_byK (os_neD hr) hi (os_ne hr) fun x y g => by
  unfold bNeX
  rw [byK_ap, byK_ap, byK_ap]; exact byK_or ..
theorem os_inX {k : Nat} {i : W → W → MH → R W} (hr : Room k X.A) (hi : OpS X Wx (compareOp .In) i) : OpS X Wx (compareOp .In) (bInX false i) := os_byK (os_din hr) hi os_in fun x y g => by
  unfold bInX
  rw [byK_ap, byK_ap, byK_ap]; exact byK_or ..
theorem os_notinX {k : Nat} {i : W → W → MH → R W} (hr : Room k X.A) (hi : OpS X Wx (compareOp .NotIn) i) : OpS X Wx (compareOp .NotIn) (bInX true i) := os_byK (os_dnotin hr) hi os_notin fun x y g => by
  unfold bInX
  rw [byK_ap, byK_ap, byK_ap]; exact byK_or ..
theorem cs_lenX {i : List W → MH → R W} (hi : CallS X Wx (.builtin "len") i) : CallS X Wx (.builtin "len") (bLenX i) := ⟨fun pins s σ b g ws vs us Q I S r rv q => by
  unfold bLenX at q
  split at q
  · rename_i x
    rw [byK_ap, byK_ap] at q
    rcases byK_or x g (bLen [x] g) (i [x] g) (bLen [x] g) with z | z | z
    · rw [z] at q; exact cs_len.run pins s σ b g _ vs us Q I S r rv q
    · rw [z] at q; exact hi.run pins s σ b g _ vs us Q I S r rv q
    · rw [z] at q; exact cs_len.run pins s σ b g _ vs us Q I S r rv q
  · exact q.elim⟩
/-- x[k] -/
def bIxX : W → W → MH → R W := fun x y h => byK x h bDix noOp bIx x y h
theorem e2_or3 {m n : EM} {d i o k : W → W → MH → R W} (h : ∀ x y g, k x y g = d x y g ∨ k x y g = o x y g ∨ k x y g = .stuck) (σ : MS) (g : MH) : e2 k m n σ g = e2 d m n σ g ∨ e2 k m n σ g = e2 o m n σ g ∨ e2 k m n σ g = .stuck := by
  unfold e2
  cases m σ g with
  | stuck => exact .inl rfl
  | exc x g1 => exact .inl rfl
  | ok x g1 =>
    simp only [R.bind_ok]
    cases n σ g1 with
    | stuck => exact .inl rfl
    | exc y g2 => exact .inl rfl
    | ok y g2 => exact h x y g2
variable {k : Nat} {a c o i e value : Expr} {ma mc mo mi mv : EM} {pos pos' : Pos}
theorem se_ixX (hr : Room k X.A) (ha : SE X Wx a ma) (hc : SE X Wx c mc) (hs : PlainIx c := by exact fun _ _ => rfl) : SE X Wx (.Subscript a c pos) (e2 bIxX ma mc) :=
  se_or2 (se_dix hr ha hc hs) (se_ix ha hc hs) fun σ g => e2_or3 (d := bDix) (i := noOp) (o := bIx) (fun x y g => by
    unfold bIxX
    rw [byK_ap, byK_ap, byK_ap]
    rcases byK_or x g (bDix x y g) (noOp x y g) (bIx x y g) with z | z | z
    · exact .inl z
    · exact .inr (.inr z)
    · exact .inr (.inl z)) σ g
/-- o[i] = v: a list or a dict -/
def putA (o i v : W) (h : MH) : Option MH := match o with
  | .ref j => match h[j]? with
    | some (.dct kvs) => match keyOf i with
      | some k => if kvs.length < sizeLine then some (h.set j (.dct (putM kvs k v))) else none
      | none => none
    | some (.lst xs) => match i with
      | .int k => match ixN xs.length k with
        | some n => some (h.set j (.lst (xs.set n v)))
        | none => none
      | _ => none
    | _ => none
  | _ => none
def sSetA (mo mi mv : EM) : SM := fun σ h => (mv σ h).st σ fun v h1 => (mo σ h1).st σ fun o h2 => (mi σ h2).st σ fun i h3 => match putA o i v h3 with
  | some g => .nx σ g
  | none => .stuck
theorem setA_or (mo mi mv : EM) (σ : MS) (h : MH) : sSetA mo mi mv σ h = sSetIx mo mi mv σ h ∨ sSetA mo mi mv σ h = sDput mo mi mv σ h ∨ sSetA mo mi mv σ h = .stuck := by
  unfold sSetA sSetIx sDput
  cases mv σ h with
  | stuck => exact .inl rfl
  | exc _ _ => exact .inl rfl
  | ok v h1 =>
    simp only [R.st_ok]
    cases mo σ h1 with
    | stuck => exact .inl rfl
    | exc _ _ => exact .inl rfl
    | ok w h2 =>
      simp only [R.st_ok]
      cases mi σ h2 with
      | stuck => exact .inl rfl
      | exc _ _ => exact .inl rfl
      | ok y h3 =>
        simp only [R.st_ok]
        unfold putA
        cases w with
        | ref j =>
          dsimp only
          cases ej : h3[j]? with
          | none => exact .inr (.inr rfl)
          | some ob =>
            cases ob with
            | lst xs =>
              cases y with
              | int k =>
                refine .inl ?_
                have em : mutAt h3 j = some xs := by unfold mutAt; rw [ej]
                dsimp only
                rw [em]
                dsimp only
                cases ixN xs.length k <;> rfl
              | _ => exact .inr (.inr rfl)
            | dct kvs =>
              refine .inr (.inl ?_)
              dsimp only
              cases keyOf y with
              | none => rfl
              | some k =>
                dsimp only
                rw [ej]
                dsimp only
                by_cases hz : kvs.length < sizeLine
                · rw [if_pos hz, if_pos hz]
                · rw [if_neg hz, if_neg hz]
            | _ => exact .inr (.inr rfl)
        | _ => exact .inr (.inr rfl)
theorem ss_setA (hr : Room k X.A) (ho : SE X Wx a mo) (hi : SE X Wx c mi) (he : SE X Wx e mv) (hsw : swapsWith e (some (.Subscript a c pos)) pos'.line X.env = pure false := by rfl) (hs : swapsWithSole [.Subscript a c pos] e pos'.line X.env = pure false := by rfl) (hw : swappedStores [.Subscript a c pos] e X.env = pure none := by rfl)
    (h1 : (assignEach [.Subscript a c pos] X.env).map (·.2) = [assign (.Subscript a c pos) X.env] := by rfl)
    (hx : ∀ v, assign (.Subscript a c pos) X.env v = (do let ov ← holding [v] (eval a X.env); let iv ← holding [v, ov] (eval c X.env); standAt pos; holding [v, ov, iv] (setItem ov iv v); release [v, ov, iv] []) := by intro _; rfl) :
    SS X Wx (.Assign [.Subscript a c pos] e pos') (sSetA mo mi mv) := ss_or2 (ss_setIx ho hi he hs hw h1 hx) (ss_dput hr ho hi he hsw) fun σ g => setA_or mo mi mv σ g
end
end PM
/-! Sm31: calls with every parameter written. -/
namespace PM
open PySem PySem.Spec L2
open PyProof.Rows hiding St
section
variable {K : PySem.W.Frag} {x qual : Str} {params : Arguments} {body : List Stmt} {scope : Scope} {dvs : List V} {kws : List (Str × V)} {f : Addr} {fd : FuncData} {ps : List Str}
theorem kbI_N (F : FunD K x qual params body scope [] kws f fd) (np : Nat) (hn : np = ps.length)
    (h : ∀ (kV doc pm : Value) (an : Option Addr) (cdv ct : Value) (us : List Value), us.length = ps.length → bindArgs (PySem.W.fnOf x qual params body scope .none kV doc pm an cdv ct) ⟨us, []⟩ = pure (ps.zip us)) : ∃ g gV, KbG K fd ps [] np g gV (fun us _ => us) := by
  obtain ⟨oc, od, dV, kV, doc, pm, an, cdv, ct, osl, rfl, lk, hcd, hD, hK⟩ := F.ex
  rcases hD with ⟨_, rfl⟩ | ⟨e, _⟩
  · exact ⟨fun us _ => us, fun vs _ => vs, fun s us ws X l1 l2 _ => .of_eq (h kV doc pm an cdv ct us (l1.trans hn)), fun r1 _ => r1, fun r1 _ => r1⟩
  · exact absurd rfl e
theorem kbI_pos (F : FunD K x qual params body scope dvs kws f fd) (np : Nat) (hd : dvs ≠ [])
    (h : ∀ (T : Addr) (kV doc pm : Value) (an : Option Addr) (cdv ct : Value) (us its : List Value), us.length = np → its.length = dvs.length →
      ∃ k, bindArgs (PySem.W.fnOf x qual params body scope (.ref T) kV doc pm an cdv ct) ⟨us, []⟩ = seqItems? (.ref T) >>= k ∧ k (some its.toArray) = pure (ps.zip us)) : ∃ g gV, KbG K fd ps [] np g gV (fun us _ => us) := by
  obtain ⟨oc, od, dV, kV, doc, pm, an, cdv, ct, osl, rfl, lk, hcd, hD, hK⟩ := F.ex
  rcases hD with ⟨e, _⟩ | ⟨_, T, o, its, m, rfl, lT, oT, rT⟩
  · exact absurd e hd
  · refine ⟨fun us _ => us, fun vs _ => vs, fun s us ws X l1 l2 _ => ?_, fun r1 _ => r1, fun r1 _ => r1⟩
    obtain ⟨k, e1, e2⟩ := h T kV doc pm an cdv ct us its l1 rT.length.symm
    refine BindsTo.of_looks fun M => ?_
    show PySem.W.Looks M s.heap (bindArgs _ ⟨us, []⟩) _
    rw [e1]
    exact looks_items X lT oT (.of_pure e2)
end
section
variable {X : Cx} {Wx : WX} {k : Nat} {f : Addr} {fd : FuncData} {ps ks : List Str} {m : FM} {C : Str} {np : Nat} {g : List Value → List Value → List Value} {gV : List V → List V → List V} {gW : List W → List W → List W} {mm : List W → List W → MH → R W} {m1 : List W → MH → R W}
theorem cG_fn (F : FnG X.prog X.w X.K X.mg X.base k f fd ps m) (hr : Room k X.A) (hgd : X.A.guards = some []) (tk : Takes X Wx) (hb : KbG X.K fd ps ks np g gV gW) (kp : PySem.W.keepIn X.K (.ref f) = true) (e : mm = fun ws zs => m (gW ws zs) := by rfl) : CalG X Wx (.ref f) np ks mm := e ▸ calG_fn F hr hgd tk hb kp
theorem cG_mk (M : Mk X.K (He.ga X.K C) f) (F : FnG X.prog X.w X.K X.mg X.base k f fd ps m) (hr : Room (k + 1) X.A) (hgd : X.A.guards = some []) (tk : Takes X Wx) (hb : KbG X.K fd ps ks (np + 1) g gV gW) (e : mm = mkM C fun ws zs => m (gW ws zs) := by rfl) : CalG X Wx (.ref (He.ga X.K C)) np ks mm := e ▸ calG_mk M F hr hgd tk hb
theorem cM_fn (F : FnG X.prog X.w X.K X.mg X.base k f fd ps m) (hr : Room (k + 1) X.A) (hgd : X.A.guards = some []) (tk : Takes X Wx) (hb : KbG X.K fd ps [] np g gV gW) (e : m1 = fun ws => m (gW ws []) := by rfl) : CalM X Wx f np m1 := e ▸ calM_fn F hr hgd tk hb
theorem se_prp {p fp : Addr} {f : Str} {e : Expr} {me : EM} {pos : Pos} (c : Cls X.K (He.ga X.K C)) (hp : PropOf X.K (He.ga X.K C) f p fp) (F : FnG X.prog X.w X.K X.mg X.base k fp fd ps m) (hr : Room (k + 1) X.A) (hgd : X.A.guards = some []) (hb : KbG X.K fd ps [] 1 g gV gW)
    (he : SE X Wx e me) (em : m1 = fun ws => m (gW ws []) := by rfl) (hab : attributeBase e f X.env (eval e X.env) = eval e X.env := by rfl) : SE X Wx (.Attribute e f pos) (eProp C m1 me) := em ▸ se_prop c hp F hr hgd hb he hab
end
end PM
/-! Sm32: dicts of integers, reckoned with. -/
namespace PM
open PySem PySem.Spec L2
section
variable {κ : Type} [DecidableEq κ] {α : Type}
theorem val_nil (k : κ) : valM ([] : List (κ × α)) k = none := rfl
theorem val_cons (p : κ × α) (l : List (κ × α)) (k : κ) : valM (p :: l) k = if p.1 = k then some p.2 else valM l k := by
  unfold valM
  rw [List.find?_cons]
  by_cases h : p.1 = k
  · simp [h]
  · simp [h]
theorem val_mem {l : List (κ × α)} {k : κ} {v : α} (h : valM l k = some v) : (k, v) ∈ l := by
  induction l with
  | nil => cases h
  | cons p l ih =>
    rw [val_cons] at h
    by_cases hp : p.1 = k
    · rw [if_pos hp] at h
      cases h
      subst hp
      exact .head _
    · rw [if_neg hp] at h
      exact .tail _ (ih h)
theorem val_none {l : List (κ × α)} {k : κ} : valM l k = none ↔ k ∉ l.map (·.1) := by
  induction l with
  | nil => simp [val_nil]
  | cons p l ih =>
    rw [val_cons]
    by_cases hp : p.1 = k
    · simp [hp]
    · rw [if_neg hp, ih]
      simp
      intro _ z
      exact hp z.symm
theorem val_of_mem {l : List (κ × α)} {k : κ} {v : α} (n : (l.map (·.1)).Nodup) (h : (k, v) ∈ l) : valM l k = some v := by
  induction l with
  | nil => cases h
  | cons p l ih =>
    rw [List.map_cons, List.nodup_cons] at n
    rw [val_cons]
    rcases List.mem_cons.mp h with e | h
    · subst e; simp
    · have : p.1 ≠ k := fun e => n.1 (e ▸ List.mem_map.mpr ⟨_, h, rfl⟩)
      rw [if_neg this]
      exact ih n.2 h
theorem any_val (l : List (κ × α)) (k : κ) : (l.any fun kv => decide (kv.1 = k)) = (valM l k).isSome := by
  induction l with
  | nil => rfl
  | cons p l ih =>
    rw [val_cons, List.any_cons, ih]
    by_cases hp : p.1 = k
    · simp [hp]
    · simp [hp]
theorem val_upd (l : List (κ × α)) (k j : κ) (v : α) : valM (l.map fun kv => if kv.1 = k then (kv.1, v) else kv) j = (valM l j).map fun x => if k = j then v else x := by
  induction l with
  | nil => rfl
  | cons p l ih =>
    rw [List.map_cons, val_cons, val_cons, ih]
    by_cases hp : p.1 = k
    · rw [if_pos hp]
      by_cases hj : p.1 = j
      · have : k = j := hp ▸ hj
        simp [hj, this]
      · simp [hj]
    · rw [if_neg hp]
      by_cases hj : p.1 = j
      · have : ¬ k = j := fun z => hp (hj.trans z.symm)
        simp [hj, this]
      · simp [hj]
theorem val_put (l : List (κ × α)) (k j : κ) (v : α) : valM (putM l k v) j = if k = j then some v else valM l j := by
  unfold putM
  rw [any_val]
  cases h : valM l k with
  | none =>
    simp only [Option.isSome_none, Bool.false_eq_true, if_false]
    induction l with
    | nil => simp [val_cons, val_nil]
    | cons p l ih =>
      rw [val_cons] at h
      by_cases hp : p.1 = k
      · rw [if_pos hp] at h; cases h
      · rw [if_neg hp] at h
        rw [List.cons_append, val_cons, val_cons, ih h]
        by_cases hj : p.1 = j
        · subst hj
          rw [if_pos rfl, if_pos rfl, if_neg (fun z => hp z.symm)]
        · rw [if_neg hj, if_neg hj]
  | some w =>
    simp only [Option.isSome_some, if_true]
    rw [val_upd]
    by_cases hk : k = j
    · subst hk
      simp [h]
    · simp [hk]
theorem keys_put (l : List (κ × α)) (k : κ) (v : α) : (putM l k v).map (·.1) = if (valM l k).isSome then l.map (·.1) else l.map (·.1) ++ [k] := by
  unfold putM
  rw [any_val]
  split
  · rw [List.map_map]
    apply List.map_congr_left
    intro p _
    show (if p.1 = k then (p.1, v) else p).1 = p.1
    split <;> rfl
  · simp
theorem nodup_put {l : List (κ × α)} (n : (l.map (·.1)).Nodup) (k : κ) (v : α) : ((putM l k v).map (·.1)).Nodup := by
  rw [keys_put]
  split
  · exact n
  · rename_i h
    have h : valM l k = none := by simpa using h
    rw [List.nodup_append]
    refine ⟨n, by simp, fun a ha b hb => ?_⟩
    have hb : b = k := by simpa using hb
    subst hb
    exact fun z => val_none.mp h (z ▸ ha)
theorem mem_put {l : List (κ × α)} {k : κ} {v : α} {p : κ × α} (h : p ∈ putM l k v) : p ∈ l ∨ p = (k, v) := by
  unfold putM at h
  split at h
  · obtain ⟨q, hq, e⟩ := List.mem_map.mp h
    by_cases z : q.1 = k
    · rw [if_pos z] at e; right; rw [← e, z]
    · rw [if_neg z] at e; left; rw [← e]; exact hq
  · rcases List.mem_append.mp h with h | h
    · exact .inl h
    · exact .inr (by simpa using h)
theorem len_put (l : List (κ × α)) (k : κ) (v : α) : (putM l k v).length ≤ l.length + 1 := by
  unfold putM
  split
  · rw [List.length_map]; omega
  · rw [List.length_append]; simp
theorem val_drop (l : List (κ × α)) (k j : κ) : valM (dropM l k) j = if k = j then none else valM l j := by
  unfold dropM
  induction l with
  | nil => simp [val_nil]
  | cons p l ih =>
    rw [List.filter_cons]
    by_cases hp : p.1 = k
    · rw [if_neg (by simpa using hp), ih, val_cons]
      by_cases hk : k = j
      · simp [hk]
      · rw [if_neg hk, if_neg hk, if_neg (fun z => hk (hp ▸ z))]
    · rw [if_pos (by simpa using hp), val_cons, val_cons, ih]
      by_cases hk : k = j
      · subst hk
        rw [if_neg hp, if_pos rfl, if_pos rfl]
      · rw [if_neg hk, if_neg hk]
theorem nodup_drop {l : List (κ × α)} (n : (l.map (·.1)).Nodup) (k : κ) : ((dropM l k).map (·.1)).Nodup := by
  unfold dropM
  exact List.Pairwise.sublist (List.Sublist.map _ List.filter_sublist) n
theorem mem_drop {l : List (κ × α)} {k : κ} {p : κ × α} (h : p ∈ dropM l k) : p ∈ l := (List.mem_filter.mp h).1
theorem merge_cons (l : List (κ × α)) (p : κ × α) (m : List (κ × α)) : mergeM l (p :: m) = mergeM (putM l p.1 p.2) m := rfl
theorem merge_nil (l : List (κ × α)) : mergeM l [] = l := rfl
theorem nodup_merge {l : List (κ × α)} (n : (l.map (·.1)).Nodup) : ∀ m : List (κ × α), ((mergeM l m).map (·.1)).Nodup := by
  intro m
  induction m generalizing l with
  | nil => exact n
  | cons p m ih => exact ih (nodup_put n _ _)
theorem mem_merge {l m : List (κ × α)} {p : κ × α} (h : p ∈ mergeM l m) : p ∈ l ∨ p ∈ m := by
  induction m generalizing l with
  | nil => exact .inl h
  | cons q m ih =>
    rcases ih h with h | h
    · rcases mem_put h with h | h
      · exact .inl h
      · exact .inr (h ▸ .head _)
    · exact .inr (.tail _ h)
theorem len_merge (l m : List (κ × α)) : (mergeM l m).length ≤ l.length + m.length := by
  induction m generalizing l with
  | nil => simp [merge_nil]
  | cons q m ih =>
    have h1 := ih (putM l q.1 q.2)
    have h2 := len_put l q.1 q.2
    rw [merge_cons]
    simp only [List.length_cons]
    omega
theorem val_merge (l m : List (κ × α)) (n : (m.map (·.1)).Nodup) (j : κ) : valM (mergeM l m) j = (valM m j).or (valM l j) := by
  induction m generalizing l with
  | nil => simp [merge_nil, val_nil]
  | cons q m ih =>
    rw [List.map_cons, List.nodup_cons] at n
    rw [merge_cons, ih _ n.2, val_put, val_cons]
    by_cases hq : q.1 = j
    · subst hq
      have : valM m q.1 = none := val_none.mpr n.1
      simp [this]
    · simp [hq]
/-- a nodup list laid into nothing is itself -/
theorem merge_self {m l : List (κ × α)} (n : ((l ++ m).map (·.1)).Nodup) : mergeM l m = l ++ m := by
  induction m generalizing l with
  | nil => simp [merge_nil]
  | cons q m ih =>
    have h1 : valM l q.1 = none := val_none.mpr fun z => by
      rw [List.map_append, List.nodup_append] at n
      exact n.2.2 _ z _ (by simp) rfl
    have h2 : putM l q.1 q.2 = l ++ [q] := by
      unfold putM
      rw [any_val, h1]
      simp
    rw [merge_cons, h2, ih (by simpa using n)]
    simp
end
/-! ### integers to integers -/
abbrev DI := List (Int × Int)
def D (l : DI) : List (Key × W) := l.map fun p => (Sum.inl p.1, W.int p.2)
theorem D_len (l : DI) : (D l).length = l.length := List.length_map _
theorem D_nil : D [] = [] := rfl
theorem D_val (l : DI) (k : Int) : valM (D l) (Sum.inl k) = (valM l k).map W.int := by
  induction l with
  | nil => rfl
  | cons p l ih =>
    show valM ((Sum.inl p.1, W.int p.2) :: D l) _ = _
    rw [val_cons, val_cons, ih]
    by_cases h : p.1 = k
    · simp [h]
    · simp [h]
theorem D_put (l : DI) (k v : Int) : putM (D l) (Sum.inl k) (.int v) = D (putM l k v) := by
  unfold putM
  rw [any_val, any_val, D_val]
  cases h : valM l k with
  | none => simp [D]
  | some w =>
    simp only [Option.map_some, Option.isSome_some, if_true]
    unfold D
    rw [List.map_map, List.map_map]
    apply List.map_congr_left
    intro p _
    show (if (Sum.inl p.1 : Key) = Sum.inl k then _ else _) = ((Sum.inl (if p.1 = k then (p.1, v) else p).1, W.int (if p.1 = k then (p.1, v) else p).2) : Key × W)
    by_cases h : p.1 = k
    · simp [h]
    · simp [h]
theorem D_drop (l : DI) (k : Int) : dropM (D l) (Sum.inl k) = D (dropM l k) := by
  unfold dropM D
  rw [List.filter_map]
  congr 1
  apply List.filter_congr
  intro p _
  by_cases h : p.1 = k
  · simp [h]
  · simp [h]
theorem D_merge (l m : DI) : mergeM (D l) (D m) = D (mergeM l m) := by
  induction m generalizing l with
  | nil => rfl
  | cons q m ih =>
    show mergeM (putM (D l) (Sum.inl q.1) (.int q.2)) (D m) = _
    rw [D_put, ih]
    rfl
theorem intsOf_map : ∀ l : List Int, intsOf (l.map W.int) = some l
  | [] => rfl
  | i :: l => by simp [intsOf, intsOf_map l]
theorem D_keys (l : DI) : intKeys (D l) = some (l.map (·.1)) := by
  unfold intKeys D
  rw [List.map_map]
  show intsOf (l.map fun p => W.int p.1) = _
  have : (l.map fun p => W.int p.1) = (l.map (·.1)).map W.int := by rw [List.map_map]; rfl
  rw [this, intsOf_map]
theorem D_keyW (l : DI) : (D l).map (fun kv => keyW kv.1) = (l.map (·.1)).map W.int := by
  unfold D
  rw [List.map_map, List.map_map]
  rfl
theorem eqv_int (i j : Int) : PyData.eqv (.int i) (.int j) = (i == j) := by rw [PyData.eqv]
theorem D_hits {l : DI} : ∀ {m : DI}, (∀ p ∈ m, valM l p.1 = some p.2) → hitsM (D l) (D m) = some true
  | [], _ => rfl
  | p :: m, h => by
    show hitsM (D l) ((Sum.inl p.1, W.int p.2) :: D m) = _
    unfold hitsM
    rw [D_val, h p (.head _)]
    simp [flatD, eqv_int, D_hits fun q hq => h q (.tail _ hq)]
/-- the keys in ascending order -/
def S (l : DI) : DI := (srtI (l.map (·.1))).map fun k => (k, (valM l k).getD 0)
theorem S_keys (l : DI) : (S l).map (·.1) = srtI (l.map (·.1)) := by
  unfold S
  rw [List.map_map]
  show List.map (fun k => k) _ = _
  simp
theorem S_nodup {l : DI} (n : (l.map (·.1)).Nodup) : ((S l).map (·.1)).Nodup := by
  rw [S_keys]
  exact (srtI_perm _).nodup_iff.mpr n
theorem S_len (l : DI) : (S l).length = l.length := by
  unfold S
  rw [List.length_map, (srtI_perm _).length_eq, List.length_map]
theorem S_mem {l : DI} (n : (l.map (·.1)).Nodup) {p : Int × Int} : p ∈ S l ↔ p ∈ l := by
  unfold S
  rw [List.mem_map]
  constructor
  · rintro ⟨k, hk, rfl⟩
    have hk : k ∈ l.map (·.1) := (srtI_perm _).mem_iff.mp hk
    obtain ⟨q, hq, rfl⟩ := List.mem_map.mp hk
    rw [val_of_mem n (v := q.2) hq]
    exact hq
  · intro h
    refine ⟨p.1, (srtI_perm _).mem_iff.mpr (List.mem_map.mpr ⟨p, h, rfl⟩), ?_⟩
    rw [val_of_mem n (v := p.2) h]
    rfl
theorem S_val {l : DI} (n : (l.map (·.1)).Nodup) (k : Int) : valM (S l) k = valM l k := by
  cases h : valM l k with
  | none =>
    rw [val_none, S_keys]
    rw [val_none] at h
    exact fun z => h ((srtI_perm _).mem_iff.mp z)
  | some v => exact val_of_mem (S_nodup n) ((S_mem n).mpr (val_mem h))
/-- two that hold the same are the same in order -/
theorem S_congr {l m : DI} (n : (l.map (·.1)).Nodup) (n' : (m.map (·.1)).Nodup) (h : ∀ k, valM l k = valM m k) : S l = S m := by
  have hp : (l.map (·.1)).Perm (m.map (·.1)) := by
    rw [List.perm_iff_count]
    intro k
    have : k ∈ l.map (·.1) ↔ k ∈ m.map (·.1) := by
      have h1 := val_none (l := l) (k := k)
      have h2 := val_none (l := m) (k := k)
      rw [h k] at h1
      exact Decidable.not_iff_not.mp (h1.symm.trans h2)
    by_cases hk : k ∈ l.map (·.1)
    · rw [n.count, n'.count, if_pos hk, if_pos (this.mp hk)]
    · rw [n.count, n'.count, if_neg hk, if_neg (fun z => hk (this.mpr z))]
  have hs : srtI (l.map (·.1)) = srtI (m.map (·.1)) := by
    have q := srtI_eq (l := m.map (·.1)) (ys := srtI (l.map (·.1))) ((srtI_perm _).trans hp) (List.Pairwise.imp (fun h => of_decide_eq_true h) (List.pairwise_mergeSort (le := fun (a c : Int) => decide (a ≤ c)) (fun a b c h1 h2 => decide_eq_true (Int.le_trans (of_decide_eq_true h1) (of_decide_eq_true h2))) (fun a b => by
      rcases Int.le_total a b with h | h
      · simp [h]
      · simp [h]) _))
    exact q
  unfold S
  rw [hs]
  apply List.map_congr_left
  intro k _
  rw [h k]
theorem keys_len_eq {l m : DI} (n : (l.map (·.1)).Nodup) (n' : (m.map (·.1)).Nodup) (h : ∀ k, valM l k = valM m k) : l.length = m.length := by
  rw [← S_len l, ← S_len m, S_congr n n' h]
/-- dicts that hold the same are equal -/
theorem eqD_same {i j : Nat} {h : MH} {l m : DI} {neg : Bool} (hi : dctAt h i = some (D l)) (hj : dctAt h j = some (D m)) (n : (l.map (·.1)).Nodup) (n' : (m.map (·.1)).Nodup) (e : ∀ k, valM l k = valM m k) : bEqD neg (.ref i) (.ref j) h = .ok (.bl !neg) h := by
  have hl : (D l).length = (D m).length := by rw [D_len, D_len, keys_len_eq n n' e]
  have hh : hitsM (D m) (D l) = some true := D_hits fun p hp => by
    rw [← e]
    exact val_of_mem n hp
  unfold bEqD
  simp only [hi, hj, if_pos hl, hh]
  cases neg <;> rfl
end PM
/-! Sm33: reckoning with instances and dicts. -/
namespace PM
open PySem PySem.Spec L2
section
variable (σ : MS) (h : MH)
@[simp] theorem ev_alt (m n : EM) : eAlt m n σ h = match m σ h with
    | .stuck => n σ h
    | r => r := rfl
@[simp] theorem ev_fld (cs : List Str) (f : Str) (m : EM) : eFld cs f m σ h = (m σ h).bind fun x g => match x with
  | .ref i => match insAt g i with
    | some (C, fs) => if C ∈ cs then match fldM fs f with
      | some w => .ok w g
      | none => .stuck else .stuck
    | none => .stuck
  | _ => .stuck := rfl
@[simp] theorem ev_prop (C : Str) (m : List W → MH → R W) (mo : EM) : eProp C m mo σ h = (mo σ h).bind fun x g => match x with
  | .ref i => match insAt g i with
    | some (C', _) => if C' = C then (m [.ref i] g).nox else .stuck
    | none => .stuck
  | _ => .stuck := rfl
@[simp] theorem ev_met (C mn : Str) (np nk : Nat) (m : List W → List W → MH → R W) (mo : EM) (n k : AM) : eMet C mn np nk m mo n k σ h = (mo σ h).bind fun x g => metG C mn x g fun i g => (n σ g).bind fun ws h1 => (k σ h1).bind fun zs h2 =>
  if (W.ref i :: ws).length = np ∧ zs.length = nk then m (.ref i :: ws) zs h2 else .stuck := rfl
@[simp] theorem ev_cal (np nk : Nat) (m : List W → List W → MH → R W) (n k : AM) : eCal np nk m n k σ h = (n σ h).bind fun ws h1 => (k σ h1).bind fun zs h2 => if ws.length = np ∧ zs.length = nk then m ws zs h2 else .stuck := rfl
@[simp] theorem ev_bm (T : String) (m : List W → MH → R W) (mo : EM) (n : AM) : eBM T m mo n σ h = (mo σ h).bind fun x h1 => if bty x h1 = some T then (n σ h1).bind fun ws h2 => m (x :: ws) h2 else .stuck := rfl
@[simp] theorem ev_dc (it : MS → MH → R MI) (vs : List Nat) (g : GM) (t : TM) (mk m : EM) : eDc it vs g t mk m σ h = (it σ h).bind fun mi h1 => dcGo mi g t mk m (wipeM σ vs) h1.length mi.fuel 0 (h1 ++ [.dct []]) := rfl
@[simp] theorem ev_lrg1 (m : EM) : eLRg1 m σ h = (m σ h).bind fun x g => match x with
  | .int n => if rgOk 0 n = true then .ok (.ref g.length) (g ++ [.lst (rgW 0 n)]) else .stuck
  | _ => .stuck := rfl
@[simp] theorem ev_lrg2 (m n : EM) : eLRg2 m n σ h = (m σ h).bind fun x g => (n σ g).bind fun y g2 => match x, y with
  | .int i, .int n => if rgOk i n = true then .ok (.ref g2.length) (g2 ++ [.lst (rgW i n)]) else .stuck
  | _, _ => .stuck := rfl
@[simp] theorem ev_idct (f : List (Key × W) → MI) (m : EM) : iDct f m σ h = (m σ h).bind (onLck f) := rfl
@[simp] theorem ev_fldS (cs : List Str) (f : Str) (mo mv : EM) : sFldM cs f mo mv σ h = (mv σ h).st σ fun y h1 => (mo σ h1).st σ fun x h2 => match x with
  | .ref i => match insAt h2 i with
    | some (C, fs) => if C ∈ cs ∧ fs.length < 1000 then .nx σ (h2.set i (.ins C (putFM f y fs))) else .stuck
    | none => .stuck
  | _ => .stuck := rfl
@[simp] theorem ev_setA (mo mi mv : EM) : sSetA mo mi mv σ h = (mv σ h).st σ fun v h1 => (mo σ h1).st σ fun o h2 => (mi σ h2).st σ fun i h3 => match putA o i v h3 with
  | some g => .nx σ g
  | none => .stuck := rfl
@[simp] theorem ev_ddel (mo mi : EM) : sDdel mo mi σ h = (mo σ h).st σ fun o h2 => (mi σ h2).st σ fun i h3 => match o, keyOf i with
  | .ref j, some k => match h3[j]? with
    | some (.dct kvs) => if (valM kvs k).isSome = true then .nx σ (h3.set j (.dct (dropM kvs k))) else .stuck
    | _ => .stuck
  | _, _ => .stuck := rfl
end
section
variable {h g : MH} {i j : Nat} {xs : List W} {w : W} {k : Int} {l m : DI}
/-! ### what stands there -/
theorem lst_get (e : lstAt h i = some xs) : h[i]? = some (.lst xs) ∨ h[i]? = some (.ro xs) := by
  unfold lstAt at e
  split at e
  · rename_i q; cases e; exact .inl q
  · rename_i q; cases e; exact .inr q
  · cases e
theorem byK_l {α : Type} {d a o : α} (e : lstAt h i = some xs) : byK (.ref i) h d a o = o := by
  unfold byK
  rcases lst_get e with q | q <;> simp [q]
theorem byK_d {α : Type} {d a o : α} {kvs : List (Key × W)} (e : dctAt h i = some kvs) : byK (.ref i) h d a o = d := by
  unfold dctAt at e
  unfold byK
  dsimp only
  split at e
  · rename_i q; simp [q]
  · rename_i q; simp [q]
  · cases e
theorem byK_i {α : Type} {d a o : α} {C : Str} {fs : List (Str × W)} (e : insAt h i = some (C, fs)) : byK (.ref i) h d a o = a := by
  unfold byK
  simp [insAt_eq e]
@[simp] theorem byK_int {α : Type} {d a o : α} (z : Int) : byK (.int z) h d a o = o := rfl
@[simp] theorem byK_bl {α : Type} {d a o : α} (z : Bool) : byK (.bl z) h d a o = o := rfl
@[simp] theorem byK_str {α : Type} {d a o : α} (z : Str) : byK (.str z) h d a o = o := rfl
@[simp] theorem byK_non {α : Type} {d a o : α} : byK .non h d a o = o := rfl
@[simp] theorem byK_tup {α : Type} {d a o : α} (z : List W) : byK (.tup z) h d a o = o := rfl
theorem ixX_l (e : lstAt h i = some xs) (a : atI xs k = some w) : bIxX (.ref i) (.int k) h = .ok w h := by
  unfold bIxX
  rw [byK_l e]; exact ix_l e a
theorem ixX_t (a : atI xs k = some w) : bIxX (.tup xs) (.int k) h = .ok w h := by
  unfold bIxX
  rw [byK_tup]
  simp [bIx, seqAt, a]
theorem ixX_d (e : dctAt h i = some (D l)) {v : Int} (a : valM l k = some v) : bIxX (.ref i) (.int k) h = .ok (.int v) h := by
  unfold bIxX
  rw [byK_d e]
  simp [bDix, e, keyOf, D_val, a]
theorem inX_d (e : dctAt h i = some (D l)) (neg : Bool) (f : W → W → MH → R W) : bInX neg f (.int k) (.ref i) h = .ok (.bl (if neg then !(valM l k).isSome else (valM l k).isSome)) h := by
  unfold bInX
  rw [byK_d e]
  simp [bDin, e, keyOf, D_val]
theorem dct_at {kvs : List (Key × W)} (e : h[i]? = some (.dct kvs)) : dctAt h i = some kvs := by
  unfold dctAt; rw [e]
theorem ins_at {C : Str} {fs : List (Str × W)} (e : h[i]? = some (.ins C fs)) : insAt h i = some (C, fs) := by
  unfold insAt; rw [e]
theorem bty_l (e : lstAt h i = some xs) : bty (.ref i) h = some "list" := by
  unfold bty; simp [e]
theorem bty_d {kvs : List (Key × W)} (e : dctAt h i = some kvs) : bty (.ref i) h = some "dict" := by
  have : lstAt h i = none := by
    unfold dctAt at e
    unfold lstAt
    split at e
    · rename_i q; simp [q]
    · rename_i q; simp [q]
    · cases e
  unfold bty; simp [e, this]
theorem putA_l (e : mutAt h i = some xs) {n : Nat} (a : ixN xs.length k = some n) : putA (.ref i) (.int k) w h = some (h.set i (.lst (xs.set n w))) := by
  unfold putA
  simp [mutAt_eq e, a]
theorem putA_d (e : h[i]? = some (.dct (D l))) (hz : l.length < sizeLine) {v : Int} : putA (.ref i) (.int k) (.int v) h = some (h.set i (.dct (D (putM l k v)))) := by
  unfold putA
  simp [e, keyOf, D_len, hz, D_put]
end
end PM
/-! Sm34: frames, dict comprehensions, locked loops, reckoned with. -/
namespace PM
open PySem PySem.Spec L2
/-- all that stood stands -/
structure Gr (h h' : MH) : Prop where
  le : h.length ≤ h'.length
  at_ : ∀ i, i < h.length → h'[i]? = h[i]?
theorem Gr.refl {h : MH} : Gr h h := ⟨Nat.le_refl _, fun _ _ => rfl⟩
theorem Gr.trans {h1 h2 h3 : MH} (x : Gr h1 h2) (y : Gr h2 h3) : Gr h1 h3 := ⟨Nat.le_trans x.le y.le, fun i hi => (y.at_ i (Nat.lt_of_lt_of_le hi x.le)).trans (x.at_ i hi)⟩
theorem Gr.app {h : MH} (e : MH) : Gr h (h ++ e) := ⟨by simp, fun i hl => List.getElem?_append_left hl⟩
theorem Gr.set {h h' : MH} (x : Gr h h') {j : Nat} (hj : h.length ≤ j) (o : Ob) : Gr h (h'.set j o) := ⟨by simpa using x.le, fun i hi => by rw [List.getElem?_set_ne (by omega), x.at_ i hi]⟩
theorem get_lt {h : MH} {i : Nat} {o : Ob} (e : h[i]? = some o) : i < h.length := (List.getElem?_eq_some_iff.mp e).1
theorem Gr.get {h h' : MH} (x : Gr h h') {i : Nat} {o : Ob} (e : h[i]? = some o) : h'[i]? = some o := (x.at_ i (get_lt e)).trans e
theorem Gr.lst {h h' : MH} (x : Gr h h') {i : Nat} {xs : List W} (e : lstAt h i = some xs) : lstAt h' i = some xs := by
  rw [← e]; unfold lstAt; rw [x.at_ i (lst_lt e)]
theorem Gr.fr {h h' : MH} (x : Gr h h') {b : Nat} : Fr b h h' := ⟨x.le, fun i _ hi => x.at_ i hi⟩
theorem Fr.get {b : Nat} {h h' : MH} (x : Fr b h h') {i : Nat} {o : Ob} (hi : i ≠ b) (e : h[i]? = some o) : h'[i]? = some o := (x.at_ i hi (get_lt e)).trans e
/-- what changes only things behind a mark -/
theorem Fr.gr {b : Nat} {h h' : MH} (x : Fr b h h') (hb : h.length ≤ b) : Gr h h' := ⟨x.le, fun i hi => x.at_ i (by omega) hi⟩
theorem set_back {h : MH} {i : Nat} {o p : Ob} (e : h[i]? = some o) : (h.set i p).set i o = h := by
  rw [List.set_set]
  obtain ⟨hi, e⟩ := List.getElem?_eq_some_iff.mp e
  rw [← e, List.set_getElem_self]
/-- a comprehension of integers to integers -/
theorem dc_map {mi : MI} {g : GM} {mk m : EM} {σ : MS} {h0 : MH} (ks : List Int) (f : Int → Int) (n : ks.Nodup) (hz : ks.length ≤ sizeLine) (hw : ∀ i acc, mi.nx i (h0 ++ [.dct acc]) = some (ks[i]?.map W.int))
    (hb : ∀ k ∈ ks, ∀ acc, ∃ σ1, g (.int k) σ (h0 ++ [.dct acc]) = some σ1 ∧ mk σ1 (h0 ++ [.dct acc]) = .ok (.int k) (h0 ++ [.dct acc]) ∧ m σ1 (h0 ++ [.dct acc]) = .ok (.int (f k)) (h0 ++ [.dct acc])) :
    dcGo mi g tYesM mk m σ h0.length ks.length 0 (h0 ++ [.dct []]) = .ok (.ref h0.length) (h0 ++ [.dct (D (ks.map fun k => (k, f k)))]) := by
  have go : ∀ (fu i : Nat), i + fu = ks.length → dcGo mi g tYesM mk m σ h0.length fu i (h0 ++ [.dct (D ((ks.take i).map fun k => (k, f k)))]) = .ok (.ref h0.length) (h0 ++ [.dct (D (ks.map fun k => (k, f k)))]) := by
    intro fu
    induction fu with
    | zero =>
      intro i e
      have e : i = ks.length := by omega
      subst e
      simp [dcGo, hw]
    | succ fu ih =>
      intro i e
      have hi : i < ks.length := by omega
      obtain ⟨σ1, e1, e2, e3⟩ := hb ks[i] (List.getElem_mem hi) (D ((ks.take i).map fun k => (k, f k)))
      have tk : ks.take (i + 1) = ks.take i ++ [ks[i]] := by simp [hi]
      have nw : putM ((ks.take i).map fun k => (k, f k)) ks[i] (f ks[i]) = (ks.take (i + 1)).map fun k => (k, f k) := by
        have hn : valM ((ks.take i).map fun k => (k, f k)) ks[i] = none := val_none.mpr fun z => by
          rw [List.map_map] at z
          obtain ⟨k, hk, ek⟩ := List.mem_map.mp z
          have ek : k = ks[i] := ek
          subst ek
          rw [← List.take_append_drop i ks, List.nodup_append] at n
          exact n.2.2 _ hk _ (by rw [List.drop_eq_getElem_cons hi]; exact .head _) rfl
        unfold putM
        rw [any_val, hn, tk, List.map_append]
        exact if_neg Bool.false_ne_true
      have hl : (D ((ks.take i).map fun k => (k, f k))).length < sizeLine := by
        rw [D_len, List.length_map, List.length_take]; omega
      have fin := ih (i + 1) (by omega)
      rw [← nw, ← D_put] at fin
      unfold dcGo
      simp only [hw, List.getElem?_eq_getElem hi, Option.map_some, e1]
      simp only [ev_yes, R.nox_ok, R.bind_ok, if_true, e2, e3, at_end, keyOf, if_pos hl, set_end]
      exact fin
  exact go ks.length 0 (by omega)
/-- a loop over a locked dict that only looks -/
theorem lck_for {i : Nat} {h : MH} {l : DI} {g : GM} {body : SM} {me : EM} {σ0 : MS} (I : MS → Prop) (e : h[i]? = some (.dct (D l))) (ch : chE me σ0 h = some i) (hm : me σ0 (h.set i (.lck (D l))) = .ok (.ref i) (h.set i (.lck (D l)))) (h0 : I σ0)
    (step : ∀ σ p, p ∈ l → I σ → ∃ σ1 σ2, g (.tup [.int p.1, .int p.2]) σ (h.set i (.lck (D l))) = some σ1 ∧ body σ1 (h.set i (.lck (D l))) = .nx σ2 (h.set i (.lck (D l))) ∧ I σ2) :
    ∃ σ', sLk (chE me) (sFor (iDct itI me) g body) σ0 h = .nx σ' h ∧ I σ' := by
  have hi := get_lt e
  have lk : (h.set i (.lck (D l)))[i]? = some (.lck (D l)) := List.getElem?_set_self hi
  have la : lckAt (h.set i (.lck (D l))) i = some (D l) := by unfold lckAt; rw [lk]
  obtain ⟨σ', h', e1, ⟨i1, i2⟩⟩ := for_inv (mi := itI (D l)) (g := g) (body := body) (fun _ σ hh => I σ ∧ hh = h.set i (.lck (D l))) (D l).length
    (fun σ hh ⟨_, eh⟩ => by simp [itI]) (fun k σ hh hk ⟨hI, eh⟩ => by
      subst eh
      have hk2 : k < l.length := by rw [D_len] at hk; exact hk
      obtain ⟨σ1, σ2, s1, s2, s3⟩ := step σ l[k] (List.getElem_mem hk2) hI
      refine ⟨.tup [.int l[k].1, .int l[k].2], σ1, ?_, s1, σ2, _, s2, s3, rfl⟩
      simp [itI, D, hk2, keyW]) (D l).length 0 σ0 _ (by omega) ⟨h0, rfl⟩
  subst i2
  refine ⟨σ', ?_, i1⟩
  have fu : (itI (D l)).fuel = (D l).length := rfl
  unfold sLk
  simp only [ch, e, ev_for, ev_idct, hm, R.bind_ok, onLck, la, R.st_ok, fu, e1]
  unfold unlS unl
  simp only [lk, set_back e]
end PM
/-! Sm35: lists of integers: ==, repr, in. -/
namespace PM
open PySem PySem.Spec L2
theorem data_ints {h : MH} {n : Nat} : ∀ l : List Int, mapO (dataW h n) (l.map W.int) = some (l.map PyData.int)
  | [] => rfl
  | x :: l => by simp [data_ints l]
theorem shaped_ints (l : List Int) : SeqAt.shaped (.list (l.map PyData.int)) = true := by
  have h1 : PyData.canLayAll0 (l.map PyData.int) = true := by
    induction l with
    | nil => rfl
    | cons x r ih => simp [PyData.canLayAll0, PyData.canLay0, ih]
  have h2 : PyData.depthAll (l.map PyData.int) = 0 := by
    clear h1
    induction l with
    | nil => rfl
    | cons x r ih => simp [PyData.depthAll, PyData.depth, ih]
  simp [SeqAt.shaped, PyData.canLay0, PyData.depth, h1, h2]
theorem eqvAll_ints : ∀ l m : List Int, PyData.eqvAll (l.map PyData.int) (m.map PyData.int) = decide (l = m)
  | [], [] => by simp [PyData.eqvAll]
  | [], y :: m => by simp [PyData.eqvAll]
  | x :: l, [] => by simp [PyData.eqvAll]
  | x :: l, y :: m => by
    simp [PyData.eqvAll, eqv_int, eqvAll_ints l m]
    by_cases h : x = y
    · simp [h]
    · simp [h]
section
variable {i j : Nat} {h : MH} {l m : List Int}
theorem eq_ints (hi : lstAt h i = some (l.map W.int)) (hj : lstAt h j = some (m.map W.int)) : bEq (.ref i) (.ref j) h = .ok (.bl (decide (l = m))) h := by
  refine (eq_of_data rfl (data_ref hi (data_ints l)) (data_ref hj (data_ints m)) (shaped_ints l) (shaped_ints m)).trans ?_
  rw [PyData.eqv, eqvAll_ints]
theorem ne_ints (hi : lstAt h i = some (l.map W.int)) (hj : lstAt h j = some (m.map W.int)) : bNe (.ref i) (.ref j) h = .ok (.bl (!decide (l = m))) h := by
  refine (ne_of_data rfl (data_ref hi (data_ints l)) (data_ref hj (data_ints m)) (shaped_ints l) (shaped_ints m)).trans ?_
  rw [PyData.eqv, eqvAll_ints]
theorem nex_l {f : W → W → MH → R W} {xs : List W} {y : W} (e : lstAt h i = some xs) : bNeX f (.ref i) y h = bNe (.ref i) y h := by
  unfold bNeX; rw [byK_l e]
theorem eqx_l {f : W → W → MH → R W} {xs : List W} {y : W} (e : lstAt h i = some xs) : bEqX f (.ref i) y h = bEq (.ref i) y h := by
  unfold bEqX; rw [byK_l e]
theorem nex_d {f : W → W → MH → R W} {kvs : List (Key × W)} {y : W} (e : dctAt h i = some kvs) : bNeX f (.ref i) y h = bEqD true (.ref i) y h := by
  unfold bNeX; rw [byK_d e]
theorem eqx_d {f : W → W → MH → R W} {kvs : List (Key × W)} {y : W} (e : dctAt h i = some kvs) : bEqX f (.ref i) y h = bEqD false (.ref i) y h := by
  unfold bEqX; rw [byK_d e]
theorem nex_i {f : W → W → MH → R W} {C : Str} {fs : List (Str × W)} {y : W} (e : insAt h i = some (C, fs)) : bNeX f (.ref i) y h = f (.ref i) y h := by
  unfold bNeX; rw [byK_i e]
theorem eqx_i {f : W → W → MH → R W} {C : Str} {fs : List (Str × W)} {y : W} (e : insAt h i = some (C, fs)) : bEqX f (.ref i) y h = f (.ref i) y h := by
  unfold bEqX; rw [byK_i e]
/-- repr of a list of integers, none longer than n signs -/
def reprI (l : List Int) : Str := PyData.shown (.list (l.map PyData.int))
theorem repr_ints (n : Nat) (hi : lstAt h i = some (l.map W.int)) (hs : ∀ k ∈ l, k.natAbs < 2 ^ 64 ∧ (toString k : Str).length ≤ n) (hz : l.length * (n + 2) + 3 ≤ 16777216) : bRepr [.ref i] h = .ok (.str (reprI l)) h := by
  have s1 : PyData.showableAll (l.map PyData.int) = true := by
    clear hz hi
    induction l with
    | nil => rfl
    | cons x r ih =>
      have := log2_lt64 (hs x (.head _)).1
      simp [PyData.showableAll, PyData.showable, ih fun k hk => hs k (.tail _ hk)]
      omega
  have s2 : PyData.hasDictAll (l.map PyData.int) = false := by
    clear hz hi hs s1
    induction l with
    | nil => rfl
    | cons x r ih => simp [PyData.hasDictAll, PyData.hasDict, ih]
  have s3 : PyData.depthAll (l.map PyData.int) = 0 := by
    clear hz hi hs s1 s2
    induction l with
    | nil => rfl
    | cons x r ih => simp [PyData.depthAll, PyData.depth, ih]
  have s4 : PyData.shownAll (l.map PyData.int) = l.map fun (k : Int) => (toString k : Str) := by
    clear hz hi hs s1 s2 s3
    induction l with
    | nil => rfl
    | cons x r ih => simp [PyData.shownAll, PyData.shown, ih]
  have s5 : (reprI l).length ≤ sizeLine := by
    unfold reprI
    rw [PyData.shown, s4, line_eq]
    refine Nat.le_trans (listText_len_le _) ?_
    have : ∀ l : List Int, (∀ k ∈ l, (toString k : Str).length ≤ n) → ((l.map fun (k : Int) => (toString k : Str)).map (·.length)).sum ≤ l.length * n := fun l hl => by
      induction l with
      | nil => simp
      | cons x r ih =>
        have h1 := hl x (.head _)
        have h2 := ih fun k hk => hl k (.tail _ hk)
        simp only [List.map_cons, List.sum_cons, List.length_cons, Nat.succ_mul]
        omega
    have := this l fun k hk => (hs k hk).2
    rw [List.length_map]
    have e : l.length * (n + 2) = l.length * n + 2 * l.length := by rw [Nat.mul_add, Nat.mul_comm l.length 2]
    omega
  unfold reprI at s5 ⊢
  simp [bRepr, data_ref hi (data_ints l), PyData.showable, PyData.hasDict, PyData.depth, s1, s2, s3, s5]
end
/-- two signs are enough below 100 -/
theorem shown_small {k : Int} (h0 : 0 ≤ k) (h1 : k < 100) : (toString k : Str).length ≤ 2 := by
  have : ∀ n : Fin 100, (toString ((n.val : Nat) : Int) : Str).length ≤ 2 := by decide +kernel
  have e : k = ((k.toNat : Nat) : Int) := by omega
  rw [e]
  exact this ⟨k.toNat, by omega⟩
/-- a function's run: its slots, its body -/
theorem run_f {np n : Nat} {body : SM} {ws : List W} {σ : MS} {h h' : MH} {w : W} (hl : ws.length = np) (e : ws.map some ++ List.replicate (n - np) none = σ) (r : body σ h = .rt w h') : mkF np n body ws h = .ok w h' := by
  unfold mkF
  rw [if_pos hl, e, r]
end PM
namespace K07
open PySem L2 PM
abbrev CS : List Str := ["Pattern"]
abbrev TB : IsT := [(.ty "NoneType", .own "Pattern", false), (.ty "bool", .own "Pattern", false), (.ty "int", .own "Pattern", false), (.ty "str", .own "Pattern", false), (.ty "list", .own "Pattern", false), (.ty "tuple", .own "Pattern", false), (.ty "dict", .own "Pattern", false), (.own "Pattern", .own "Pattern", true), (.own "Pattern", .ty "bool", false), (.own "Pattern", .ty "int", false), (.own "Pattern", .ty "str", false), (.own "Pattern", .ty "list", false), (.own "Pattern", .ty "tuple", false), (.own "Pattern", .ty "dict", false)]
abbrev NF_Pattern : List Kd := [.ty "NoneType", .ty "bool", .ty "int", .ty "str", .ty "list", .ty "tuple", .ty "dict", .own "Pattern"]
def m_Pattern_cells : FM := mkF 1 1
    (sRet (eCall bDict (aCons (eFld ["Pattern"] "value_at" (eVar 0)) aNil)))
def m_Pattern_width : FM := mkF 1 1
    (sRet (eFld ["Pattern"] "pattern_width" (eVar 0)))
def m_Pattern___eq__ : FM := mkF 2 2
    (sSeq (sIf (tNotM (tTru (eCall (bIsO CS TB) (aCons (eVar 1) (aCons (eC (.glo "Pattern")) aNil))))) (sRet (eC (.bl false))) sNext)
    (sRet (eAnd (e2 (bEqX noOp) (eFld ["Pattern"] "pattern_width" (eVar 0)) (eProp "Pattern" (fun ws => m_Pattern_width ws) (eVar 1))) (e2 (bEqX noOp) (eFld ["Pattern"] "value_at" (eVar 0)) (eMet "Pattern" "cells" 1 0 (fun ws _ => m_Pattern_cells ws) (eVar 1) aNil aNil)))))
def m_is_integer : FM := mkF 3 3
    (sRet (eAnd (eCall bIsi (aCons (eVar 0) (aCons (eC (.ty "int")) aNil))) (eAnd (eNot (eCall bIsi (aCons (eVar 0) (aCons (eC (.ty "bool")) aNil)))) (eChain bLe bLe (eVar 1) (eVar 0) (eVar 2)))))
def m_are_cells : FM := mkF 2 4
    (sSeq (sIf (tNotM (tTru (eCall bIsi (aCons (eVar 1) (aCons (eC (.ty "dict")) aNil))))) (sRet (eC (.bl false))) sNext)
    (sSeq (sLk (chE (eVar 1)) (sFor (iDct itI (eVar 1)) (gTp 2 (gCons (gN 2) (gCons (gN 3) gNil))) (sIf (tOrM (tNotM (tTru (eCall m_is_integer (aCons (eVar 2) (aCons (eC (.int 0)) (aCons (e2 bSub (eVar 0) (eC (.int 1))) aNil)))))) (tNotM (tTru (eCall m_is_integer (aCons (eVar 3) (aCons (eC (.int 0)) (aCons (eC (.int 999)) aNil))))))) (sRet (eC (.bl false))) sNext)))
    (sRet (eC (.bl true)))))
def m_Pattern___init__ : FM := mkF 3 4
    (sSeq (sIf (tNotM (tTru (eCall m_is_integer (aCons (eVar 1) (aCons (eC (.int 1)) (aCons (eC (.int 66)) aNil)))))) sStuck sNext)
    (sSeq (sIf (tAndM (tTru (e2 bNot (eVar 2) (eC .non))) (tNotM (tTru (eCall m_are_cells (aCons (eVar 1) (aCons (eVar 2) aNil)))))) sStuck sNext)
    (sSeq (sFldM ["Pattern"] "pattern_width" (eVar 0) (eVar 1))
    (sSeq (sFldM ["Pattern"] "value_at" (eVar 0) eDict0)
    (sIf (tTru (e2 bNot (eVar 2) (eC .non))) (sFldM ["Pattern"] "value_at" (eVar 0) (eDc (iVal (eCall bSrt (aCons (eVar 2) aNil))) [3] (gN 3) tYesM (eVar 3) (e2 bIxX (eVar 2) (eVar 3)))) sNext)))))
def m_Pattern_free_runs : FM := mkF 2 5
    (sSeq (sIf (tNotM (tTru (eCall m_is_integer (aCons (eVar 1) (aCons (eC (.int 1)) (aCons (eC (.int 66)) aNil)))))) sStuck sNext)
    (sSeq (sSet 2 (eLst aNil))
    (sSeq (sFor (iRange rng1 (aCons (e2 bAdd (e2 bSub (eFld ["Pattern"] "pattern_width" (eVar 0)) (eVar 1)) (eC (.int 1))) aNil)) (gN 3) (sIf (tTru (eCall (bAll fun ks => ks.all id) (aCons (eLc (iRange rng1 (aCons (eVar 1) aNil)) [4] (gN 4) tYesM (e2 (bInX true noOp) (e2 bAdd (eVar 3) (eVar 4)) (eFld ["Pattern"] "value_at" (eVar 0)))) aNil))) (sExpr (eBM "list" bApp (eVar 2) (aCons (eVar 3) aNil))) sNext))
    (sRet (eVar 2)))))
def m_Pattern_offsets : FM := mkF 1 1
    (sRet (eCall bList (aCons (eFld ["Pattern"] "value_at" (eVar 0)) aNil)))
def m__law_bag : FM := mkF 1 1
    (sRet (eLst (aCons (eCall bMax2 (aCons (eC (.int 0)) (aCons (e2 bSub (eVar 0) (e2 bPow (eC (.int 10)) (eC (.int 18)))) aNil))) (aCons (e2 bMod (eVar 0) (eC (.int 2147483629))) (aCons (eC (.int 0)) aNil)))))
def m__law_cell : FM := mkF 2 2
    (sSeq (sIf (tTru (e2 bLt (eVar 1) (eCall bLen (aCons (eVar 0) aNil)))) (sRet (e2 bIxX (eVar 0) (eVar 1))) sNext)
    (sRet (e2 bAdd (e2 bMul (eC (.int 67867967)) (eVar 1)) (eC (.int 101)))))
def m_Pattern_with_cells : FM := mkF 2 2
    (sSeq (sIf (tNotM (tTru (eCall m_are_cells (aCons (eFld ["Pattern"] "pattern_width" (eVar 0)) (aCons (eVar 1) aNil))))) sStuck sNext)
    (sRet (eCal 2 0 (mkM "Pattern" (fun ws _ => m_Pattern___init__ ws)) (aCons (eFld ["Pattern"] "pattern_width" (eVar 0)) (aCons (eMrg (eFld ["Pattern"] "value_at" (eVar 0)) (eVar 1)) aNil)) aNil)))
def m_is_list : FM := mkF 1 1
    (sRet (eCall bIsi (aCons (eVar 0) (aCons (eTup (aCons (eC (.ty "list")) (aCons (eC (.ty "tuple")) aNil))) aNil))))
def m_Pattern_without : FM := mkF 2 4
    (sSeq (sIf (tOrM (tNotM (tTru (eCall m_is_list (aCons (eVar 1) aNil)))) (tTru (e2 bGt (eCall bLen (aCons (eVar 1) aNil)) (eC (.int 66))))) sStuck sNext)
    (sSeq (sSet 2 (eCall bDict (aCons (eFld ["Pattern"] "value_at" (eVar 0)) aNil)))
    (sSeq (sFor (iVal (eVar 1)) (gN 3) (sSeq (sIf (tOrM (tNotM (tTru (eCall m_is_integer (aCons (eVar 3) (aCons (eC (.int 0)) (aCons (e2 bSub (eFld ["Pattern"] "pattern_width" (eVar 0)) (eC (.int 1))) aNil)))))) (tTru (e2 (bInX true noOp) (eVar 3) (eVar 2)))) sStuck sNext)
    (sDdel (eVar 2) (eVar 3))))
    (sRet (eCal 2 0 (mkM "Pattern" (fun ws _ => m_Pattern___init__ ws)) (aCons (eFld ["Pattern"] "pattern_width" (eVar 0)) (aCons (eVar 2) aNil)) aNil)))))
def m__law_take : FM := mkF 2 4
    (sSeq (sIf (tTru (e2 bGt (e2 bIxX (eVar 0) (eC (.int 0))) (eC (.int 0)))) (sSeq (sSet 2 (e2 bMod (e2 bIxX (eVar 0) (eC (.int 0))) (eVar 1)))
    (sSeq (sSetA (eVar 0) (eC (.int 0)) (e2 bDiv (e2 bIxX (eVar 0) (eC (.int 0))) (eVar 1)))
    (sRet (eVar 2)))) sNext)
    (sSeq (sSetA (eVar 0) (eC (.int 2)) (e2 bAdd (e2 bIxX (eVar 0) (eC (.int 2))) (eC (.int 1))))
    (sSeq (sSet 3 (e2 bMod (e2 bPow (e2 bAdd (e2 bAdd (e2 bIxX (eVar 0) (eC (.int 1))) (e2 bMul (eC (.int 67867967)) (e2 bIxX (eVar 0) (eC (.int 2))))) (eC (.int 101))) (eC (.int 5))) (eC (.int 2147483647))))
    (sSeq (sSet 3 (e2 bMod (e2 bPow (e2 bAdd (eVar 3) (e2 bMul (eC (.int 104711)) (e2 bIxX (eVar 0) (eC (.int 2))))) (eC (.int 3))) (eC (.int 2147483587))))
    (sRet (e2 bMod (e2 bDiv (eVar 3) (eC (.int 16))) (eVar 1)))))))
def m__law_change : FM := mkF 4 12
    (sSeq (sSet 4 (eCall bDict (aCons (eVar 3) aNil)))
    (sSeq (sIf (tTru (e2 bEq (eCall m__law_take (aCons (eVar 0) (aCons (eC (.int 2)) aNil))) (eC (.int 0)))) (sSeq (sSet 5 eDict0)
    (sSeq (sFor (iRange rng1 (aCons (eCall m__law_take (aCons (eVar 0) (aCons (e2 bIxX (eLst (aCons (eC (.int 4)) (aCons (e2 bAdd (eCall bMin2 (aCons (eVar 2) (aCons (eC (.int 14)) aNil))) (eC (.int 1))) aNil))) (eCall m__law_take (aCons (eVar 0) (aCons (eC (.int 2)) aNil)))) aNil))) aNil)) (gN 6) (sSetA (eVar 5) (eCall m__law_take (aCons (eVar 0) (aCons (eVar 2) aNil))) (eCall m__law_take (aCons (eVar 0) (aCons (eC (.int 1000)) aNil)))))
    (sSeq (sSet 7 (eCall bDict (aCons (eVar 5) aNil)))
    (sSeq (sSet 8 (eMet "Pattern" "with_cells" 2 0 (fun ws _ => m_Pattern_with_cells ws) (eVar 1) (aCons (eVar 5) aNil) aNil))
    (sSeq (sIf (tTru (e2 (bNeX (bNeI "Pattern" CS NF_Pattern (fun ws => m_Pattern___eq__ ws))) (eVar 5) (eVar 7))) (sRet (eTup (aCons (eC .non) (aCons (eVar 4) aNil)))) sNext)
    (sSeq (sExpr (eBM "dict" bDupd (eVar 4) (aCons (eVar 5) aNil)))
    (sSeq (sSetA (eVar 5) (eC (.int 0)) (eC (.int 7)))
    (sRet (eTup (aCons (eVar 8) (aCons (eVar 4) aNil))))))))))) sNext)
    (sSeq (sPar 9 10 (aCons (eCall bList (aCons (eVar 4) aNil)) (aCons (eLst aNil) aNil)))
    (sSeq (sFor (iRange rng1 (aCons (eCall m__law_take (aCons (eVar 0) (aCons (e2 bIxX (eLst (aCons (eCall bMin2 (aCons (eC (.int 5)) (aCons (e2 bAdd (eCall bLen (aCons (eVar 9) aNil)) (eC (.int 1))) aNil))) (aCons (e2 bAdd (eCall bLen (aCons (eVar 9) aNil)) (eC (.int 1))) aNil))) (eCall m__law_take (aCons (eVar 0) (aCons (eC (.int 2)) aNil)))) aNil))) aNil)) (gN 6) (sExpr (eBM "list" bApp (eVar 10) (aCons (eAlt (eBM "list" bPop (eVar 9) (aCons (eCall m__law_take (aCons (eVar 0) (aCons (eCall bLen (aCons (eVar 9) aNil)) aNil))) aNil)) (eBM "dict" bDpop (eVar 9) (aCons (eCall m__law_take (aCons (eVar 0) (aCons (eCall bLen (aCons (eVar 9) aNil)) aNil))) aNil))) aNil))))
    (sSeq (sSet 7 (eCall bList (aCons (eVar 10) aNil)))
    (sSeq (sSet 8 (eMet "Pattern" "without" 2 0 (fun ws _ => m_Pattern_without ws) (eVar 1) (aCons (e2 bIxX (eLst (aCons (eVar 10) (aCons (eCall bTupO (aCons (eVar 10) aNil)) aNil))) (eCall m__law_take (aCons (eVar 0) (aCons (eC (.int 2)) aNil)))) aNil) aNil))
    (sSeq (sIf (tTru (e2 (bNeX (bNeI "Pattern" CS NF_Pattern (fun ws => m_Pattern___eq__ ws))) (eVar 10) (eVar 7))) (sRet (eTup (aCons (eC .non) (aCons (eVar 4) aNil)))) sNext)
    (sSeq (sFor (iVal (eVar 10)) (gN 11) (sExpr (eAlt (eBM "list" bPop (eVar 4) (aCons (eVar 11) aNil)) (eBM "dict" bDpop (eVar 4) (aCons (eVar 11) aNil)))))
    (sSeq (sExpr (eBM "list" bApp (eVar 10) (aCons (eC (.int 0)) aNil)))
    (sRet (eTup (aCons (eVar 8) (aCons (eVar 4) aNil)))))))))))))
def m__law_content : FM := mkF 1 6
    (sSeq (sSet 1 (e2 bAdd (eC (.int 1)) (eCall m__law_take (aCons (eVar 0) (aCons (e2 bIxX (eLst (aCons (eC (.int 4)) (aCons (eC (.int 8)) (aCons (eC (.int 12)) (aCons (eC (.int 66)) aNil))))) (eCall m__law_take (aCons (eVar 0) (aCons (eC (.int 4)) aNil)))) aNil)))))
    (sSeq (sPar 2 3 (aCons (eLRg1 (eVar 1)) (aCons eDict0 aNil)))
    (sSeq (sFor (iRange rng1 (aCons (eCall m__law_take (aCons (eVar 0) (aCons (e2 bAdd (eVar 1) (eC (.int 1))) aNil))) aNil)) (gN 4) (sSeq (sSet 5 (eAlt (eBM "list" bPop (eVar 2) (aCons (eCall m__law_take (aCons (eVar 0) (aCons (eCall bLen (aCons (eVar 2) aNil)) aNil))) aNil)) (eBM "dict" bDpop (eVar 2) (aCons (eCall m__law_take (aCons (eVar 0) (aCons (eCall bLen (aCons (eVar 2) aNil)) aNil))) aNil))))
    (sSetA (eVar 3) (eVar 5) (e2 bIxX (eLst (aCons (eC (.int 0)) (aCons (eC (.int 999)) (aCons (eCall m__law_take (aCons (eVar 0) (aCons (eC (.int 3)) aNil))) (aCons (eCall m__law_take (aCons (eVar 0) (aCons (eC (.int 1000)) aNil))) aNil))))) (eCall m__law_take (aCons (eVar 0) (aCons (eC (.int 4)) aNil)))))))
    (sRet (eTup (aCons (eVar 1) (aCons (eVar 3) aNil)))))))
def m__law_runs : FM := mkF 3 6
    (sSeq (sSet 3 (eLst aNil))
    (sSeq (sFor (iRange rng1 (aCons (eVar 0) aNil)) (gN 4) (sIf (tAndM (tTru (e2 bLe (e2 bAdd (eVar 4) (eVar 2)) (eVar 0))) (tTru (e2 (bEqX (bEqI "Pattern" CS NF_Pattern (fun ws => m_Pattern___eq__ ws))) (eLc (iRange rng1 (aCons (eVar 2) aNil)) [5] (gN 5) (tTru (e2 (bInX false noOp) (e2 bAdd (eVar 4) (eVar 5)) (eVar 1))) (eVar 5)) (eLst aNil)))) (sExpr (eBM "list" bApp (eVar 3) (aCons (eVar 4) aNil))) sNext))
    (sRet (eVar 3))))
def m_law : FM := mkF 1 11
    (sSeq (sFor (iRange rng1 (aCons (eCall bMax2 (aCons (eC (.int 2)) (aCons (eCall bMin2 (aCons (eC (.int 6)) (aCons (eCall bLen (aCons (eVar 0) aNil)) aNil))) aNil))) aNil)) (gN 1) (sSeq (sSet 2 (eCall m__law_bag (aCons (eCall m__law_cell (aCons (eVar 0) (aCons (eVar 1) aNil))) aNil)))
    (sSeq (sAsg (gTp 2 (gCons (gN 3) (gCons (gN 4) gNil))) (eCall m__law_content (aCons (eVar 2) aNil)))
    (sSeq (sSet 5 (eLst (aCons (eTup (aCons (eCal 2 0 (mkM "Pattern" (fun ws _ => m_Pattern___init__ ws)) (aCons (eVar 3) (aCons (eVar 4) aNil)) aNil) (aCons (eVar 4) aNil))) aNil)))
    (sSeq (sFor (iRange rng1 (aCons (eCall m__law_take (aCons (eVar 2) (aCons (eC (.int 13)) aNil))) aNil)) (gN 6) (sSeq (sExpr (eBM "list" bApp (eVar 5) (aCons (eCall m__law_change (aCons (eVar 2) (aCons (e2 bIxX (e2 bIxX (eVar 5) (eNeg (eC (.int 1)))) (eC (.int 0))) (aCons (eVar 3) (aCons (e2 bIxX (e2 bIxX (eVar 5) (eNeg (eC (.int 1)))) (eC (.int 1))) aNil))))) aNil)))
    (sSeq (sIf (tTru (e2 bIs (e2 bIxX (e2 bIxX (eVar 5) (eNeg (eC (.int 1)))) (eC (.int 0))) (eC .non))) (sRet (eC (.bl false))) sNext)
    (sFor (iVal (eVar 5)) (gTp 2 (gCons (gN 7) (gCons (gN 8) gNil))) (sIf (tOrM (tTru (e2 (bNeX (bNeI "Pattern" CS NF_Pattern (fun ws => m_Pattern___eq__ ws))) (eVar 7) (eCal 2 0 (mkM "Pattern" (fun ws _ => m_Pattern___init__ ws)) (aCons (eVar 3) (aCons (eVar 8) aNil)) aNil))) (tOrM (tTru (e2 (bNeX (bNeI "Pattern" CS NF_Pattern (fun ws => m_Pattern___eq__ ws))) (eMet "Pattern" "cells" 1 0 (fun ws _ => m_Pattern_cells ws) (eVar 7) aNil aNil) (eVar 8))) (tTru (e2 (bNeX (bNeI "Pattern" CS NF_Pattern (fun ws => m_Pattern___eq__ ws))) (eMet "Pattern" "offsets" 1 0 (fun ws _ => m_Pattern_offsets ws) (eVar 7) aNil aNil) (eCall bSrt (aCons (eVar 8) aNil)))))) (sRet (eC (.bl false))) sNext)))))
    (sSeq (sAsg (gTp 2 (gCons (gN 7) (gCons (gN 8) gNil))) (e2 bIxX (eVar 5) (eNeg (eC (.int 1)))))
    (sFor (iVal (e2 bAdd (eLRg2 (eC (.int 1)) (e2 bAdd (eCall bMin2 (aCons (eVar 3) (aCons (eC (.int 12)) aNil))) (eC (.int 1)))) (eLst (aCons (eVar 3) (aCons (eC (.int 66)) aNil))))) (gN 9) (sFor (iRange rng1 (aCons (eC (.int 2)) aNil)) (gN 6) (sSeq (sSet 10 (eMet "Pattern" "free_runs" 2 0 (fun ws _ => m_Pattern_free_runs ws) (eVar 7) (aCons (eVar 9) aNil) aNil))
    (sSeq (sIf (tTru (e2 bNe (eCall bRepr (aCons (eVar 10) aNil)) (eCall bRepr (aCons (eCall m__law_runs (aCons (eVar 3) (aCons (eVar 8) (aCons (eVar 9) aNil)))) aNil)))) (sRet (eC (.bl false))) sNext)
    (sExpr (eBM "list" bApp (eVar 10) (aCons (eC (.int 0)) aNil)))))))))))))
    (sRet (eC (.bl true))))
end K07
namespace K07
open PySem L2 PM
/-- cells of a pattern of width w -/
structure Cl (w : Int) (l : DI) : Prop where
  nd : (l.map (·.1)).Nodup
  ok : ∀ p ∈ l, 0 ≤ p.1 ∧ p.1 < w ∧ 0 ≤ p.2 ∧ p.2 ≤ 999
/-- the pattern at p: width w, the cells of l in order -/
def Pt (h : MH) (p : Nat) (w : Int) (l : DI) : Prop := ∃ d, h[p]? = some (.ins "Pattern" [("pattern_width", .int w), ("value_at", .ref d)]) ∧ h[d]? = some (.dct (D (S l)))
theorem Pt.gr {h h' : MH} {p : Nat} {w : Int} {l : DI} (P : Pt h p w l) (g : Gr h h') : Pt h' p w l := by
  obtain ⟨d, e1, e2⟩ := P
  exact ⟨d, g.get e1, g.get e2⟩
/-- the same, at no place before n -/
def Pf (n : Nat) (h : MH) (p : Nat) (w : Int) (l : DI) : Prop := n ≤ p ∧ ∃ d, n ≤ d ∧ h[p]? = some (.ins "Pattern" [("pattern_width", .int w), ("value_at", .ref d)]) ∧ h[d]? = some (.dct (D (S l)))
theorem Pf.pt {n : Nat} {h : MH} {p : Nat} {w : Int} {l : DI} (P : Pf n h p w l) : Pt h p w l := by
  obtain ⟨_, d, _, e1, e2⟩ := P
  exact ⟨d, e1, e2⟩
theorem Pf.set {n j : Nat} {h : MH} {p : Nat} {w : Int} {l : DI} {o : Ob} (P : Pf n h p w l) (hj : j < n) : Pf n (h.set j o) p w l := by
  obtain ⟨a, d, b, e1, e2⟩ := P
  exact ⟨a, d, b, by rw [List.getElem?_set_ne (by omega)]; exact e1, by rw [List.getElem?_set_ne (by omega)]; exact e2⟩
theorem Pf.le {n m : Nat} {h : MH} {p : Nat} {w : Int} {l : DI} (P : Pf n h p w l) (hj : m ≤ n) : Pf m h p w l := by
  obtain ⟨a, d, b, e⟩ := P
  exact ⟨by omega, d, by omega, e⟩
theorem few : ∀ (n : Nat) (l : List Int), l.Nodup → (∀ k ∈ l, 0 ≤ k ∧ k < n) → l.length ≤ n
  | 0, [], _, _ => Nat.le_refl _
  | 0, k :: l, _, h => by have := h k (.head _); omega
  | n + 1, l, nd, h => by
    have h1 := few n (l.erase n) (nd.erase _) fun k hk => by
      have q := h k (List.mem_of_mem_erase hk)
      have ne : k ≠ n := fun z => by
        subst z
        exact (List.Nodup.mem_erase_iff nd).mp hk |>.1 rfl
      omega
    have h2 := List.length_erase (a := (n : Int)) (l := l)
    split at h2 <;> omega
theorem Cl.len {w : Int} {l : DI} (c : Cl w l) (hw : w ≤ 66) : l.length ≤ 66 := by
  have := few 66 (l.map (·.1)) c.nd fun k hk => by
    obtain ⟨p, hp, rfl⟩ := List.mem_map.mp hk
    have := c.ok p hp
    omega
  simpa using this
theorem is_int (v lo hi : Int) (h : MH) : m_is_integer [.int v, .int lo, .int hi] h = .ok (.bl (decide (lo ≤ v) && decide (v ≤ hi))) h := by
  have t1 : bIsi [.int v, .ty "int"] h = .ok (.bl true) h := rfl
  have t2 : bIsi [.int v, .ty "bool"] h = .ok (.bl false) h := rfl
  by_cases g : lo ≤ v
  · simp [m_is_integer, mkF, t1, t2, g]
  · simp [m_is_integer, mkF, t1, t2, g]
theorem are_cells {w : Int} {l : DI} {r : Nat} {h : MH} (e : h[r]? = some (.dct (D l))) (c : Cl w l) : m_are_cells [.int w, .ref r] h = .ok (.bl true) h := by
  have t : bIsi [.ref r, .ty "dict"] h = .ok (.bl true) h := isi_d e
  obtain ⟨σ', e1, _⟩ := lck_for (me := eVar 1) (σ0 := [some (.int w), some (.ref r), none, none]) (g := gTp 2 (gCons (gN 2) (gCons (gN 3) gNil))) (body := (sIf (tOrM (tNotM (tTru (eCall m_is_integer (aCons (eVar 2) (aCons (eC (.int 0)) (aCons (e2 bSub (eVar 0) (eC (.int 1))) aNil)))))) (tNotM (tTru (eCall m_is_integer (aCons (eVar 3) (aCons (eC (.int 0)) (aCons (eC (.int 999)) aNil))))))) (sRet (eC (.bl false))) sNext))
    (fun σ => ∃ a b, σ = [some (.int w), some (.ref r), a, b]) e rfl rfl ⟨_, _, rfl⟩ fun σ p hp ⟨a, b, es⟩ => by
      subst es
      have q := c.ok p hp
      refine ⟨_, [some (.int w), some (.ref r), some (.int p.1), some (.int p.2)], rfl, ?_, _, _, rfl⟩
      have q1 : (0 : Int) ≤ p.1 := q.1
      have q2 : p.1 ≤ w - 1 := by omega
      simp [is_int, q1, q2, q.2.2.1, q.2.2.2]
  simp [m_are_cells, mkF, t, e1]
end K07
namespace K07
open PySem L2 PM
/-- the bag at b: a great cell, a number to mix, draws so far -/
def Bx (b N : Nat) (h : MH) : Prop := ∃ x y z : Int, mutAt h b = some [.int x, .int y, .int z] ∧ 0 ≤ y ∧ y < 2147483629 ∧ 0 ≤ z ∧ z ≤ N
theorem Bx.mono {b N M : Nat} {h : MH} (B : Bx b N h) (l : N ≤ M) : Bx b M h := by
  obtain ⟨x, y, z, e, y0, y1, z0, z1⟩ := B
  exact ⟨x, y, z, e, y0, y1, z0, by omega⟩
theorem Bx.lt {b N : Nat} {h : MH} (B : Bx b N h) : b < h.length := by
  obtain ⟨x, y, z, e, _⟩ := B
  exact mut_lt e
theorem Bx.gr {b N : Nat} {h h' : MH} (B : Bx b N h) (g : Gr h h') : Bx b N h' := by
  obtain ⟨x, y, z, m, r⟩ := B
  refine ⟨x, y, z, ?_, r⟩
  have := g.get (mutAt_eq m)
  unfold mutAt
  rw [this]
theorem Bx.set {b N j : Nat} {h : MH} {o : Ob} (B : Bx b N h) (n : j ≠ b) : Bx b N (h.set j o) := by
  obtain ⟨x, y, z, m, r⟩ := B
  exact ⟨x, y, z, by rw [mut_set_ne n]; exact m, r⟩
theorem take {b N : Nat} {h : MH} {m : Int} (B : Bx b N h) (hN : N ≤ 1000000000) (hm : 0 < m) (h9 : m.natAbs < 2 ^ 64) :
    ∃ r h', m__law_take [.ref b, .int m] h = .ok (.int r) h' ∧ 0 ≤ r ∧ r < m ∧ Fr b h h' ∧ h'.length = h.length ∧ Bx b (N + 1) h' := by
  obtain ⟨x, y, z, e, y0, y1, z0, z1⟩ := B
  have hl := lst_of_mut e
  have lt := mut_lt e
  have hm9 : m.natAbs.log2 < 9000 := by have := log2_lt64 h9; omega
  have i0 : bIxX (.ref b) (.int 0) h = .ok (.int x) h := ixX_l hl rfl
  have s0 : putA (.ref b) (.int 0) (.int (x / m)) h = some (h.set b (.lst [.int (x / m), .int y, .int z])) := putA_l (n := 0) e rfl
  have s2 : putA (.ref b) (.int 2) (.int (z + 1)) h = some (h.set b (.lst [.int x, .int y, .int (z + 1)])) := putA_l (n := 2) e rfl
  by_cases hx : 0 < x
  · refine ⟨x % m, h.set b (.lst [.int (x / m), .int y, .int z]), ?_, Int.emod_nonneg _ (by omega), Int.emod_lt_of_pos _ hm, .set _, List.length_set, ⟨x / m, y, z, mut_set lt, y0, y1, z0, by omega⟩⟩
    simp [m__law_take, mkF, i0, hx, mod_ii hm, div_ii hm hm9, s0]
  · have h2 := mut_set (xs := [.int x, .int y, .int (z + 1)]) lt
    have hl2 := lst_of_mut h2
    have a0 : bIxX (.ref b) (.int 2) h = .ok (.int z) h := ixX_l hl rfl
    have a1 : bIxX (.ref b) (.int 1) (h.set b (.lst [.int x, .int y, .int (z + 1)])) = .ok (.int y) _ := ixX_l hl2 rfl
    have a2 : bIxX (.ref b) (.int 2) (h.set b (.lst [.int x, .int y, .int (z + 1)])) = .ok (.int (z + 1)) _ := ixX_l hl2 rfl
    have m1 : ∀ g, bMul (.int 67867967) (.int (z + 1)) g = .ok (.int (67867967 * (z + 1))) g := fun g => mul_small (by decide) (by omega)
    have m2 : ∀ g, bMul (.int 104711) (.int (z + 1)) g = .ok (.int (104711 * (z + 1))) g := fun g => mul_small (by decide) (by omega)
    have p1 : ∀ g, bPow (.int (y + 67867967 * (z + 1) + 101)) (.int 5) g = .ok (.int ((y + 67867967 * (z + 1) + 101) ^ 5)) g := fun g => pow_ii (by decide) (by decide) (by omega)
    generalize hk : (y + 67867967 * (z + 1) + 101) ^ 5 = k at p1
    have k0 := Int.emod_nonneg k (show (2147483647 : Int) ≠ 0 by decide)
    have k1 := Int.emod_lt_of_pos k (show (0 : Int) < 2147483647 by decide)
    have p2 : ∀ g, bPow (.int (k % 2147483647 + 104711 * (z + 1))) (.int 3) g = .ok (.int ((k % 2147483647 + 104711 * (z + 1)) ^ 3)) g := fun g => pow_ii (by decide) (by decide) (by omega)
    generalize hj : (k % 2147483647 + 104711 * (z + 1)) ^ 3 = j at p2
    refine ⟨j % 2147483587 / 16 % m, h.set b (.lst [.int x, .int y, .int (z + 1)]), ?_, Int.emod_nonneg _ (by omega), Int.emod_lt_of_pos _ hm, .set _, List.length_set, ⟨x, y, z + 1, h2, y0, y1, by omega, by omega⟩⟩
    have d1 : ∀ (i : Int) g, bMod (.int i) (.int 2147483647) g = .ok (.int (i % 2147483647)) g := fun i g => mod_ii (by decide)
    have d2 : ∀ (i : Int) g, bMod (.int i) (.int 2147483587) g = .ok (.int (i % 2147483587)) g := fun i g => mod_ii (by decide)
    have d3 : ∀ (i : Int) g, bDiv (.int i) (.int 16) g = .ok (.int (i / 16)) g := fun i g => div_ii (by decide) (by decide)
    have d4 : ∀ (i : Int) g, bMod (.int i) (.int m) g = .ok (.int (i % m)) g := fun i g => mod_ii hm
    simp [m__law_take, mkF, i0, hx, s2, a0, a1, a2, m1, m2, p1, p2, d1, d2, d3, d4]
theorem atI_lt {α : Type} {xs : List α} {k : Int} (h0 : 0 ≤ k) (h1 : k < xs.length) : ∃ a, atI xs k = some a ∧ a ∈ xs := by
  have e : ixN xs.length k = some k.toNat := by
    unfold ixN
    rw [if_pos h0, if_pos h1]
  have lt : k.toNat < xs.length := by omega
  exact ⟨xs[k.toNat], by simp [atI, e, lt], List.getElem_mem lt⟩
theorem cell {i : Nat} {h : MH} {ns : List Int} {k : Int} (e : lstAt h i = some (ns.map W.int)) (h0 : 0 ≤ k) (h9 : k < 100) : ∃ c, m__law_cell [.ref i, .int k] h = .ok (.int c) h := by
  by_cases g : k < ns.length
  · obtain ⟨a, a1, a2⟩ := atI_lt (xs := ns.map W.int) (k := k) h0 (by simpa using g)
    obtain ⟨c, _, rfl⟩ := List.mem_map.mp a2
    exact ⟨c, by simp [m__law_cell, mkF, len_l e, g, ixX_l e a1]⟩
  · have m1 : ∀ g, bMul (.int 67867967) (.int k) g = .ok (.int (67867967 * k)) g := fun g => mul_small (by decide) (by omega)
    exact ⟨67867967 * k + 101, by simp [m__law_cell, mkF, len_l e, g, m1]⟩
theorem bag (c : Int) (h : MH) : ∃ h', m__law_bag [.int c] h = .ok (.ref h.length) h' ∧ Gr h h' ∧ Bx h.length 0 h' := by
  have p18 : ∀ g, bPow (.int 10) (.int 18) g = .ok (.int 1000000000000000000) g := fun g => rfl
  have d : ∀ g, bMod (.int c) (.int 2147483629) g = .ok (.int (c % 2147483629)) g := fun g => mod_ii (by decide)
  refine ⟨h ++ [.lst [.int (if c - 1000000000000000000 > 0 then c - 1000000000000000000 else 0), .int (c % 2147483629), .int 0]], by simp [m__law_bag, mkF, p18, d, line_eq], .app _, _, _, _, mut_new _ _, Int.emod_nonneg _ (by decide), Int.emod_lt_of_pos _ (by decide), by decide, by decide⟩
/-- one of a new list's integers, drawn -/
theorem pick {b N : Nat} {h : MH} {m : Int} (A : List Int) (B : Bx b N h) (hN : N ≤ 100000000) (hm : m = A.length) (h0 : 0 < m) (h9 : m < 100) :
    ∃ r x h', m__law_take [.ref b, .int m] (h ++ [.lst (A.map W.int)]) = .ok (.int r) h' ∧ bIxX (.ref h.length) (.int r) h' = .ok (.int x) h' ∧ x ∈ A ∧ Fr b h h' ∧ Bx b (N + 1) h' := by
  obtain ⟨r, h', e, r0, r1, F, _, B1⟩ := take (m := m) (B.gr (.app [.lst (A.map W.int)])) (by omega) h0 (by omega)
  obtain ⟨x, a1, a2⟩ := atI_lt (xs := A) (k := r) r0 (by omega)
  have lt := B.lt
  refine ⟨r, x, h', e, ixX_l (F.lst (by omega) (lst_new _ _)) ?_, a2, (Fr.app _).trans F, B1⟩
  unfold atI at *
  rw [List.length_map]
  cases q : ixN A.length r with
  | none => rw [q] at a1; cases a1
  | some j =>
    rw [q] at a1
    simp at a1
    simp [a1]
end K07
namespace K07
open PySem L2 PM
theorem fld_set {cs : List Str} {f C : Str} {n : Nat} {σ : MS} {h : MH} {fs : List (Str × W)} {v : W} {mo mv : EM} (hv : mv σ h = .ok v h) (ho : mo σ h = .ok (.ref n) h) (e : h[n]? = some (.ins C fs)) (hc : C ∈ cs) (hl : fs.length < 1000) :
    sFldM cs f mo mv σ h = .nx σ (h.set n (.ins C (putFM f v fs))) := by
  simp [hv, ho, ins_at e, hc, hl]
theorem srt_d {i : Nat} {h : MH} {l : DI} (e : h[i]? = some (.dct (D l))) : bSrt [.ref i] h = .ok (.ref h.length) (h ++ [.lst ((srtI (l.map (·.1))).map W.int)]) := by
  have : lstAt h i = none := by unfold lstAt; rw [e]
  simp [bSrt, this, dct_at e, D_keys]
theorem init {w : Int} {n r : Nat} {l : DI} {g : MH} (e : g[n]? = some (.ins "Pattern" [])) (er : g[r]? = some (.dct (D l))) (c : Cl w l) (h1 : 1 ≤ w) (h2 : w ≤ 66) :
    ∃ g', m_Pattern___init__ [.ref n, .int w, .ref r] g = .ok .non g' ∧ Fr n g g' ∧ Pf n g' n w l := by
  have nr : r ≠ n := fun z => by
    subst z; rw [e] at er; cases er
  have hn := get_lt e
  generalize eσ : ([some (.ref n), some (.int w), some (.ref r), none] : MS) = σ
  have v0 : ∀ h, eVar 0 σ h = .ok (.ref n) h := fun h => by subst eσ; rfl
  have v1 : ∀ h, eVar 1 σ h = .ok (.int w) h := fun h => by subst eσ; rfl
  have v2 : ∀ h, eVar 2 σ h = .ok (.ref r) h := fun h => by subst eσ; rfl
  have w0 : σ[0]? = some (some (.ref n)) := by subst eσ; rfl
  have w1 : σ[1]? = some (some (.int w)) := by subst eσ; rfl
  have w2 : σ[2]? = some (some (.ref r)) := by subst eσ; rfl
  have s1 : (sIf (tNotM (tTru (eCall m_is_integer (aCons (eVar 1) (aCons (eC (.int 1)) (aCons (eC (.int 66)) aNil)))))) sStuck sNext) σ g = .nx σ g := by
    simp [w1, is_int, h1, h2]
  have nn : ∀ h, bNot (.ref r) .non h = .ok (.bl true) h := fun h => rfl
  have s2 : (sIf (tAndM (tTru (e2 bNot (eVar 2) (eC .non))) (tNotM (tTru (eCall m_are_cells (aCons (eVar 1) (aCons (eVar 2) aNil)))))) sStuck sNext) σ g = .nx σ g := by
    simp [w1, w2, nn, are_cells er c]
  have s3 := fld_set (cs := ["Pattern"]) (f := "pattern_width") (v1 g) (v0 g) e (by decide) (by decide)
  generalize eg1 : g.set n (.ins "Pattern" (putFM "pattern_width" (.int w) [])) = g1 at s3
  have F1 : Fr n g g1 := eg1 ▸ .set _
  have e1 : g1[n]? = some (.ins "Pattern" [("pattern_width", .int w)]) := by rw [← eg1]; exact List.getElem?_set_self hn
  have e1' : (g1 ++ [Ob.dct []])[n]? = some (.ins "Pattern" [("pattern_width", .int w)]) := (Gr.app _).get e1
  have s4 : (sFldM ["Pattern"] "value_at" (eVar 0) eDict0) σ g1 = .nx σ ((g1 ++ [Ob.dct []]).set n (.ins "Pattern" (putFM "value_at" (.ref g1.length) [("pattern_width", .int w)]))) := by
    simp only [ev_fldS, ev_dict0, R.st_ok, v0, ins_at e1', List.length_cons, List.length_nil]
    exact if_pos (by decide)
  generalize eg2 : (g1 ++ [Ob.dct []]).set n (.ins "Pattern" (putFM "value_at" (.ref g1.length) [("pattern_width", .int w)])) = g2 at s4
  have F2 : Fr n g1 g2 := eg2 ▸ (Fr.app _).trans (.set _)
  have e2 : g2[n]? = some (.ins "Pattern" [("pattern_width", .int w), ("value_at", .ref g1.length)]) := by
    rw [← eg2]; exact List.getElem?_set_self (get_lt e1')
  have er2 := (F1.trans F2).get nr er
  have sd := srt_d er2
  generalize eks : srtI (l.map (·.1)) = ks at sd
  have G3 : Gr g2 (g2 ++ [Ob.lst (ks.map W.int)]) := .app _
  generalize eg3 : g2 ++ [.lst (ks.map W.int)] = g3 at sd G3
  have l3 : lstAt g3 g2.length = some (ks.map W.int) := by rw [← eg3]; exact lst_new _ _
  have nd : ks.Nodup := by rw [← eks]; exact (srtI_perm _).nodup_iff.mpr c.nd
  have lk : ks.length ≤ sizeLine := by
    rw [← eks, (srtI_perm _).length_eq, List.length_map]
    have := c.len h2
    rw [line_eq]; omega
  have dc := dc_map (mi := itL g2.length (ks.map W.int)) (g := gN 3) (mk := eVar 3) (m := PM.e2 bIxX (eVar 2) (eVar 3)) (σ := σ.set 3 none) (h0 := g3) ks (fun k => (valM l k).getD 0) nd lk
    (fun i acc => by rw [nx_lst (lst_app (lst_lt l3) |>.trans l3)]; simp) (fun k hk acc => by
      refine ⟨(σ.set 3 none).set 3 (some (.int k)), rfl, by subst eσ; rfl, ?_⟩
      have hk : k ∈ l.map (·.1) := by rw [← eks] at hk; exact (srtI_perm _).mem_iff.mp hk
      cases hv : valM l k with
      | none => exact absurd hk (val_none.mp hv)
      | some v =>
        subst eσ
        have := ixX_d (dct_at ((Gr.app (h := g3) [.dct acc]).get (G3.get er2))) hv
        simp [this])
  have eS : (ks.map fun k => (k, (valM l k).getD 0)) = S l := by rw [← eks]; rfl
  rw [eS] at dc
  have G4 : Gr g3 (g3 ++ [Ob.dct (D (S l))]) := .app _
  have d4 : (g3 ++ [Ob.dct (D (S l))])[g3.length]? = some (.dct (D (S l))) := at_end _ _
  generalize eg4 : g3 ++ [.dct (D (S l))] = g4 at dc G4 d4
  have e4 := (G3.trans G4).get e2
  have s5 : (sIf (tTru (PM.e2 bNot (eVar 2) (eC .non))) (sFldM ["Pattern"] "value_at" (eVar 0) (eDc (iVal (eCall bSrt (aCons (eVar 2) aNil))) [3] (gN 3) tYesM (eVar 3) (PM.e2 bIxX (eVar 2) (eVar 3)))) sNext) σ g2 = .nx σ (g4.set n (.ins "Pattern" [("pattern_width", .int w), ("value_at", .ref g3.length)])) := by
    have q : (eDc (iVal (eCall bSrt (aCons (eVar 2) aNil))) [3] (gN 3) tYesM (eVar 3) (PM.e2 bIxX (eVar 2) (eVar 3))) σ g2 = .ok (.ref g3.length) g4 := by
      simp only [ev_dc, ev_val, ev_call, ev_cons, ev_nil, v2, R.bind_ok, sd, iter_l l3, fuel_lst, List.length_map]
      exact dc
    simp only [ev_sif, ev_tru, ev_e2, ev_c, v2, R.bind_ok, nn, tru_bl, R.st_ok, if_true, ev_fldS, q, v0, ins_at e4]
    exact if_pos ⟨.head _, by simp⟩
  refine ⟨g4.set n (.ins "Pattern" [("pattern_width", .int w), ("value_at", .ref g3.length)]), ?_, ((((F1.trans F2).trans G3.fr).trans G4.fr).trans (.set _)), Nat.le_refl _, g3.length, ?_, ?_, ?_⟩
  · simp only [m_Pattern___init__, mkF, List.length_cons, List.length_nil, List.replicate, List.map_cons, List.map_nil, List.cons_append, List.nil_append, eσ, ev_seq, s1, s2, s3, s4, s5, RS.seq_nx]
    exact if_pos True.intro
  · have := get_lt e2
    have := G3.le
    omega
  · exact List.getElem?_set_self (get_lt e4)
  · rw [List.getElem?_set_ne]
    · exact d4
    · have := get_lt e2
      have := G3.le
      omega
abbrev mkP : List W → List W → MH → R W := mkM "Pattern" (fun ws _ => m_Pattern___init__ ws)
theorem mkPat {w : Int} {r : Nat} {l : DI} {h : MH} (er : h[r]? = some (.dct (D l))) (c : Cl w l) (h1 : 1 ≤ w) (h2 : w ≤ 66) :
    ∃ h', mkP [.int w, .ref r] [] h = .ok (.ref h.length) h' ∧ Gr h h' ∧ Pf h.length h' h.length w l := by
  obtain ⟨g', e, F, P⟩ := init (w := w) (n := h.length) (r := r) (l := l) (g := h ++ [.ins "Pattern" []]) (at_end _ _) ((Gr.app _).get er) c h1 h2
  have G : Gr h g' := ⟨Nat.le_trans (by simp) F.le, fun i hi => by
    rw [F.at_ i (Nat.ne_of_lt hi) (by simp; omega), List.getElem?_append_left hi]⟩
  exact ⟨g', by simp [mkM, e], G, P⟩
end K07
namespace K07
open PySem L2 PM
theorem S_cl {w : Int} {l : DI} (c : Cl w l) : Cl w (S l) := ⟨S_nodup c.nd, fun p hp => c.ok p ((S_mem c.nd).mp hp)⟩
theorem lst_none_d {i : Nat} {h : MH} {kvs : List (Key × W)} (e : h[i]? = some (.dct kvs)) : lstAt h i = none := by
  unfold lstAt; rw [e]
theorem cells {p : Nat} {w : Int} {l : DI} {h : MH} (P : Pt h p w l) : m_Pattern_cells [.ref p] h = .ok (.ref h.length) (h ++ [.dct (D (S l))]) := by
  obtain ⟨d, e1, e2⟩ := P
  have f : fldM [("pattern_width", W.int w), ("value_at", W.ref d)] "value_at" = some (.ref d) := by
    simp [fldM]
    decide
  simp [m_Pattern_cells, mkF, ins_at e1, f, bDict, dct_at e2]
theorem fw {w : Int} {d : Nat} : fldM [("pattern_width", W.int w), ("value_at", W.ref d)] "pattern_width" = some (.int w) := by
  simp [fldM]
theorem fv {w : Int} {d : Nat} : fldM [("pattern_width", W.int w), ("value_at", W.ref d)] "value_at" = some (.ref d) := by
  simp [fldM]
  decide
theorem offsets {p : Nat} {w : Int} {l : DI} {h : MH} (P : Pt h p w l) : m_Pattern_offsets [.ref p] h = .ok (.ref h.length) (h ++ [.lst ((srtI (l.map (·.1))).map W.int)]) := by
  obtain ⟨d, e1, e2⟩ := P
  have k := D_keyW (S l)
  rw [S_keys] at k
  simp [m_Pattern_offsets, mkF, ins_at e1, fv, bList, lst_none_d e2, dct_at e2, k]
theorem same_w {p q : Nat} {w : Int} {l m : DI} {h : MH} (P : Pt h p w l) (Q : Pt h q w m) (c : Cl w l) (c' : Cl w m) (e : ∀ k, valM l k = valM m k) : ∃ h', m_Pattern___eq__ [.ref p, .ref q] h = .ok (.bl true) h' ∧ Gr h h' := by
  obtain ⟨d, e1, e2⟩ := P
  have cc := cells Q
  obtain ⟨d', e1', e2'⟩ := Q
  have g1 : Gr h (h ++ [.dct (D (S m))]) := .app _
  have k1 : bIsO CS TB [.ref q, .glo "Pattern"] h = .ok (.bl true) h := by
    unfold bIsO
    simp only [kdW, ins_at e1', cdW]
    exact rfl
  have k2 : ∀ f, bEqX f (.ref d) (.ref h.length) (h ++ [.dct (D (S m))]) = .ok (.bl true) (h ++ [.dct (D (S m))]) := fun f => by
    rw [eqx_d (dct_at (g1.get e2))]
    exact eqD_same (dct_at (g1.get e2)) (dct_at (at_end _ _)) (S_nodup c.nd) (S_nodup c'.nd) (fun k => by rw [S_val c.nd, S_val c'.nd, e])
  have k3 : ∀ f h, bEqX f (.int w) (.int w) h = .ok (.bl true) h := fun f h => by
    unfold bEqX
    simp
  refine ⟨_, ?_, g1⟩
  have f3 : fldM [("pattern_width", W.int w), ("value_at", W.ref d')] "cells" = none := by
    simp [fldM]
    decide
  have wd : m_Pattern_width [.ref q] h = .ok (.int w) h := by
    simp [m_Pattern_width, mkF, ins_at e1', fw]
  simp [m_Pattern___eq__, mkF, k1, ins_at e1, ins_at e1', fw, fv, wd, k3, metG, f3, cc, k2]
/-- equal patterns -/
theorem ne_pat {p q : Nat} {w : Int} {l m : DI} {h : MH} (P : Pt h p w l) (Q : Pt h q w m) (c : Cl w l) (c' : Cl w m) (e : ∀ k, valM l k = valM m k) :
    ∃ h', bNeX (bNeI "Pattern" CS NF_Pattern (fun ws => m_Pattern___eq__ ws)) (.ref p) (.ref q) h = .ok (.bl false) h' ∧ Gr h h' := by
  obtain ⟨h', e1, g⟩ := same_w P Q c c' e
  obtain ⟨d, i1, _⟩ := P
  obtain ⟨d', i2, _⟩ := Q
  refine ⟨h', ?_, g⟩
  rw [nex_i (ins_at i1)]
  simp only [bNeI, ins_at i1, kdW, ins_at i2]
  rw [if_pos (by decide), e1]
  rfl
end K07
namespace K07
open PySem L2 PM
theorem Cl.merge {w : Int} {l m : DI} (c : Cl w l) (c' : Cl w m) : Cl w (mergeM l m) := ⟨nodup_merge c.nd m, fun p hp => (mem_merge hp).elim (c.ok p) (c'.ok p)⟩
theorem Cl.drop {w : Int} {l : DI} (c : Cl w l) (k : Int) : Cl w (dropM l k) := ⟨nodup_drop c.nd k, fun p hp => c.ok p (mem_drop hp)⟩
theorem Pf.same {n : Nat} {h : MH} {p : Nat} {w : Int} {l m : DI} (P : Pf n h p w l) (c : Cl w l) (c' : Cl w m) (e : ∀ k, valM l k = valM m k) : Pf n h p w m := by
  obtain ⟨a, d, b, e1, e2⟩ := P
  refine ⟨a, d, b, e1, ?_⟩
  rw [← S_congr c.nd c'.nd e]
  exact e2
theorem D_merge0 (l : DI) (n : (l.map (·.1)).Nodup) : mergeM ([] : List (Key × W)) (D l) = D l := by
  have := D_merge [] l
  rw [merge_self (l := []) (m := l) (by simpa using n)] at this
  rw [D_nil] at this
  exact this
theorem with_cells {p r : Nat} {w : Int} {l m : DI} {h : MH} (P : Pt h p w l) (er : h[r]? = some (.dct (D m))) (c : Cl w l) (c' : Cl w m) (h1 : 1 ≤ w) (h2 : w ≤ 66) :
    ∃ h' q, m_Pattern_with_cells [.ref p, .ref r] h = .ok (.ref q) h' ∧ Gr h h' ∧ Pf h.length h' q w (mergeM l m) := by
  obtain ⟨d, e1, e2⟩ := P
  have G1 : Gr h (h ++ [Ob.dct []]) := .app _
  have dn : d ≠ h.length := fun z => by have := get_lt e2; omega
  have rn : r ≠ h.length := fun z => by have := get_lt er; omega
  have ll := c.len h2
  have lm := c'.len h2
  have s1 : (h ++ [Ob.dct []]).set h.length (.dct (mergeM [] (D (S l)))) = h ++ [Ob.dct (D (S l))] := by
    rw [set_end, D_merge0 _ (S_nodup c.nd)]
  have G2 : Gr h (h ++ [Ob.dct (D (S l))]) := .app _
  have s2 : (h ++ [Ob.dct (D (S l))]).set h.length (.dct (mergeM (D (S l)) (D m))) = h ++ [Ob.dct (D (mergeM (S l) m))] := by
    rw [set_end, D_merge]
  have mg : (eMrg (eFld ["Pattern"] "value_at" (eVar 0)) (eVar 1)) [some (.ref p), some (.ref r)] h = .ok (.ref h.length) (h ++ [Ob.dct (D (mergeM (S l) m))]) := by
    unfold eMrg
    simp only [ev_fld, ev_var, List.getElem?_cons_zero, List.getElem?_cons_succ, R.bind_ok, ins_at (G1.get e1), if_pos (List.mem_singleton.mpr rfl), fv, at_end, G1.get e2]
    rw [if_pos ⟨dn, by simp [D_len, S_len, line_eq]; omega⟩, s1]
    simp only [R.bind_ok, at_end, G2.get er]
    rw [if_pos ⟨rn, by simp [D_len, S_len, line_eq]; omega⟩, s2]
  have cm := (S_cl c).merge c'
  obtain ⟨h', e3, g3, P3⟩ := mkPat (w := w) (r := h.length) (l := mergeM (S l) m) (h := h ++ [Ob.dct (D (mergeM (S l) m))]) (at_end _ _) cm h1 h2
  refine ⟨h', _, ?_, (Gr.app _).trans g3, (P3.le (by simp)).same cm (c.merge c') fun k => ?_⟩
  · unfold mkP at e3
    refine run_f rfl rfl ?_
    simp [ins_at e1, fw, are_cells er c']
    erw [mg]
    simp at e3
    simp [e3]
  · rw [val_merge _ _ c'.nd, val_merge _ _ c'.nd, S_val c.nd]
/-- keys taken off -/
def dropL (l : DI) (ks : List Int) : DI := ks.foldl dropM l
theorem dropL_snoc (l : DI) (ks : List Int) (k : Int) : dropL l (ks ++ [k]) = dropM (dropL l ks) k := by
  unfold dropL; rw [List.foldl_append]; rfl
theorem val_dropL (ks : List Int) : ∀ (l : DI) (j : Int), valM (dropL l ks) j = if j ∈ ks then none else valM l j := by
  induction ks with
  | nil => intro l j; simp [dropL]
  | cons k ks ih =>
    intro l j
    show valM (dropL (dropM l k) ks) j = _
    rw [ih, val_drop]
    by_cases h1 : j ∈ ks
    · simp [h1]
    · by_cases h2 : k = j
      · simp [h2]
      · have : ¬ j = k := fun z => h2 z.symm
        simp [h1, h2, this]
theorem Cl.dropL {w : Int} {l : DI} (c : Cl w l) : ∀ ks, Cl w (K07.dropL l ks) := fun ks => by
  induction ks generalizing l with
  | nil => exact c
  | cons k ks ih => exact ih (c.drop k)
/-- x lists the integers ks -/
def Ls (h : MH) (x : W) (ks : List Int) : Prop := (∃ j, x = .ref j ∧ lstAt h j = some (ks.map W.int)) ∨ x = .tup (ks.map W.int)
theorem Ls.iter {h : MH} {x : W} {ks : List Int} (s : Ls h x ks) : ∃ mi : MI, iterW x h = .ok mi h ∧ mi.fuel = ks.length ∧ ∀ g, Ls g x ks → ∀ i, mi.nx i g = some (ks[i]?.map W.int) := by
  rcases s with ⟨j, rfl, e⟩ | rfl
  · refine ⟨_, iter_l e, by simp, fun g s i => ?_⟩
    rcases s with ⟨j', e1, e2⟩ | e1
    · cases e1
      rw [nx_lst e2]; simp
    · cases e1
  · exact ⟨_, iter_t _ _, by simp, fun g _ i => by rw [nx_tup]; simp⟩
theorem Ls.gr {h h' : MH} {x : W} {ks : List Int} (s : Ls h x ks) (g : Gr h h') : Ls h' x ks := by
  rcases s with ⟨j, rfl, e⟩ | rfl
  · exact .inl ⟨j, rfl, g.lst e⟩
  · exact .inr rfl
theorem Ls.isl {h : MH} {x : W} {ks : List Int} (s : Ls h x ks) : m_is_list [x] h = .ok (.bl true) h := by
  rcases s with ⟨j, rfl, e⟩ | rfl
  · have : bIsi [.ref j, .tup [.ty "list", .ty "tuple"]] h = .ok (.bl true) h := by
      simp only [bIsi, tyB, e]
      rfl
    simp [m_is_list, mkF, this, line_eq]
  · have : bIsi [.tup (ks.map W.int), .tup [.ty "list", .ty "tuple"]] h = .ok (.bl true) h := rfl
    simp [m_is_list, mkF, this, line_eq]
theorem Ls.len {h : MH} {x : W} {ks : List Int} (s : Ls h x ks) : bLen [x] h = .ok (.int ks.length) h := by
  rcases s with ⟨j, rfl, e⟩ | rfl
  · rw [len_l e]; simp
  · simp [bLen, lenW]
theorem without {p : Nat} {x : W} {w : Int} {l : DI} {ks : List Int} {h : MH} (P : Pt h p w l) (s : Ls h x ks) (c : Cl w l) (nd : ks.Nodup) (hk : ∀ k ∈ ks, k ∈ l.map (·.1)) (h1 : 1 ≤ w) (h2 : w ≤ 66) :
    ∃ h' q, m_Pattern_without [.ref p, x] h = .ok (.ref q) h' ∧ Gr h h' ∧ Pf h.length h' q w (dropL l ks) := by
  have P0 := P
  obtain ⟨d, e1, e2⟩ := P
  have rg : ∀ k ∈ ks, 0 ≤ k ∧ k < w := fun k z => by
    obtain ⟨p, hp, rfl⟩ := List.mem_map.mp (hk k z)
    have := c.ok p hp
    omega
  have lk : ks.length ≤ 66 := few 66 ks nd fun k z => by have := rg k z; omega
  have G1 : Gr h (h ++ [Ob.dct (D (S l))]) := .app _
  obtain ⟨mi, i1, i2, i3⟩ := (s.gr G1).iter
  have cut : ∀ i (z : i < ks.length), ks.take (i + 1) = ks.take i ++ [ks[i]] := fun i z => by simp [z]
  obtain ⟨σ', h', f1, ⟨a, f2, f3, f4⟩⟩ := for_inv (mi := mi) (g := gN 3) (body := (sSeq (sIf (tOrM (tNotM (tTru (eCall m_is_integer (aCons (eVar 3) (aCons (eC (.int 0)) (aCons (PM.e2 bSub (eFld ["Pattern"] "pattern_width" (eVar 0)) (eC (.int 1))) aNil)))))) (tTru (PM.e2 (bInX true noOp) (eVar 3) (eVar 2)))) sStuck sNext)
    (sDdel (eVar 2) (eVar 3))))
    (fun i σ g => ∃ a, σ = [some (.ref p), some x, some (.ref h.length), a] ∧ g = h ++ [Ob.dct (D (dropL (S l) (ks.take i)))] ∧ True) ks.length
    (fun σ g ⟨a, ea, eg, _⟩ => by subst eg; rw [i3 _ (s.gr (.app _))]; simp) (fun i σ g hi ⟨a, ea, eg, _⟩ => by
      subst ea eg
      have G : Gr h (h ++ [Ob.dct (D (dropL (S l) (ks.take i)))]) := .app _
      refine ⟨.int ks[i], _, by rw [i3 _ (s.gr (.app _))]; simp [hi], rfl, [some (.ref p), some x, some (.ref h.length), some (.int ks[i])], h ++ [Ob.dct (D (dropL (S l) (ks.take (i + 1))))], ?_, _, rfl, rfl, trivial⟩
      have r := rg _ (List.getElem_mem hi)
      have hv : (valM (dropL (S l) (ks.take i)) ks[i]).isSome = true := by
        rw [val_dropL, S_val c.nd]
        have n1 : ks[i] ∉ ks.take i := fun z => by
          rw [← List.take_append_drop i ks, List.nodup_append] at nd
          exact nd.2.2 _ z _ (by rw [List.drop_eq_getElem_cons hi]; exact .head _) rfl
        rw [if_neg n1]
        have := mt val_none.mp (fun z => z (hk _ (List.getElem_mem hi)))
        cases q : valM l ks[i] with
        | none => exact absurd q this
        | some v => rfl
      have ii : ∀ g, m_is_integer [.int ks[i], .int 0, .int (w - 1)] g = .ok (.bl true) g := fun g => by
        have a : (0 : Int) ≤ ks[i] := r.1
        have b : ks[i] ≤ w - 1 := by omega
        rw [is_int]; simp [a, b]
      have hv2 : (valM (D (dropL (S l) (ks.take i))) (Sum.inl ks[i])).isSome = true := by
        rw [D_val]
        simpa using hv
      have dn := inX_d (k := ks[i]) (dct_at (at_end h (Ob.dct (D (dropL (S l) (ks.take i)))))) true noOp
      rw [hv] at dn
      simp [ins_at (G.get e1), fw, ii, dn, keyOf, hv2]
      rw [D_drop, ← dropL_snoc, ← cut i hi]) ks.length 0 [some (.ref p), some x, some (.ref h.length), none] _ (by omega) ⟨_, rfl, rfl, trivial⟩
  subst f2 f3
  rw [List.take_length] at f1
  have cm := (S_cl c).dropL ks
  obtain ⟨h', e3, g3, P3⟩ := mkPat (w := w) (r := h.length) (l := dropL (S l) ks) (h := h ++ [Ob.dct (D (dropL (S l) ks))]) (at_end _ _) cm h1 h2
  refine ⟨h', _, ?_, (Gr.app _).trans g3, (P3.le (by simp)).same cm (c.dropL ks) fun k => ?_⟩
  · unfold mkP at e3
    have ls : ¬ (66 < (ks.length : Int)) := by omega
    have bd : bDict [.ref d] h = .ok (.ref h.length) (h ++ [Ob.dct (D (S l))]) := by simp [bDict, dct_at e2]
    refine run_f rfl rfl ?_
    simp only [List.take_zero, show dropL (S l) [] = S l from rfl] at f1
    simp [s.isl, s.len, ls, ins_at e1, fv, bd, i1, i2]
    rw [f1]
    simp at e3
    simp [ins_at ((Gr.app (h := h) [Ob.dct (D (dropL (S l) ks))]).get e1), fw, e3]
  · rw [val_dropL, val_dropL, S_val c.nd]
end K07
namespace K07
open PySem L2 PM
/-- n free places from s on -/
def freeAt (l : DI) (n : Int) (s : Nat) : Bool := (List.range n.toNat).all fun k => !(valM l ((s : Int) + k)).isSome
def runsOf (w : Int) (l : DI) (n : Int) : List Int := ((List.range (w - n + 1).toNat).filter (freeAt l n)).map fun (s : Nat) => (s : Int)
theorem take_succ_f {p : Nat → Bool} (i : Nat) : (List.range (i + 1)).filter p = if p i then (List.range i).filter p ++ [i] else (List.range i).filter p := by
  rw [List.range_succ, List.filter_append]
  cases h : p i <;> simp [h]
/-- a list grown by the places that pass -/
theorem grow {v : Nat} {body : SM} {h : MH} {j : Nat} {σ0 : MS} (p : Nat → Bool) (J : MS → Prop) (n : Nat) (n9 : n < 1000) (hj : h.length ≤ j)
    (step : ∀ i σ g, i < n → J σ → Gr h g → mutAt g j = some (((List.range i).filter p).map fun (s : Nat) => W.int (s : Int)) → ∃ σ1, gN v (.int i) σ g = some σ1 ∧ ∃ σ2 g2, body σ1 g = .nx σ2 g2 ∧ J σ2 ∧ Gr h g2 ∧ mutAt g2 j = some (((List.range (i + 1)).filter p).map fun (s : Nat) => W.int (s : Int))) 
    {g : MH} (hJ : J σ0) (G : Gr h g) (m : mutAt g j = some []) : ∃ σ' g', forGo (itR 0 n) (gN v) body n 0 σ0 g = .nx σ' g' ∧ J σ' ∧ Gr h g' ∧ mutAt g' j = some (((List.range n).filter p).map fun (s : Nat) => W.int (s : Int)) := by
  obtain ⟨σ', g', e, a, b, c⟩ := for_inv (mi := itR 0 n) (g := gN v) (body := body) (fun i σ g => J σ ∧ Gr h g ∧ mutAt g j = some (((List.range i).filter p).map fun (s : Nat) => W.int (s : Int))) n
    (fun σ g _ => by rw [nx_rng]; simp) (fun i σ g hi ⟨a, b, c⟩ => by
      obtain ⟨σ1, e1, σ2, g2, e2, r⟩ := step i σ g hi a b c
      exact ⟨.int i, σ1, by rw [nx_rng]; simp [hi], e1, σ2, g2, e2, r⟩) n 0 σ0 g (by omega) ⟨hJ, G, m⟩
  exact ⟨σ', g', e, a, b, c⟩
theorem free_runs {p : Nat} {w n : Int} {l : DI} {h : MH} (P : Pt h p w l) (c : Cl w l) (h1 : 1 ≤ w) (h2 : w ≤ 66) (n1 : 1 ≤ n) (n2 : n ≤ 66) :
    ∃ h', m_Pattern_free_runs [.ref p, .int n] h = .ok (.ref h.length) h' ∧ Gr h h' ∧ mutAt h' h.length = some ((runsOf w l n).map W.int) := by
  obtain ⟨d, e1, e2⟩ := P
  have fS : ∀ s, freeAt (S l) n s = freeAt l n s := fun s => by
    unfold freeAt
    congr 1
    funext k
    rw [S_val c.nd]
  obtain ⟨σ', g', f1, ⟨a, b, f2⟩, f3, f4⟩ := grow (v := 3) (body := (sIf (tTru (eCall (bAll fun ks => ks.all id) (aCons (eLc (iRange rng1 (aCons (eVar 1) aNil)) [4] (gN 4) tYesM (PM.e2 (bInX true noOp) (PM.e2 bAdd (eVar 3) (eVar 4)) (eFld ["Pattern"] "value_at" (eVar 0)))) aNil))) (sExpr (eBM "list" bApp (eVar 2) (aCons (eVar 3) aNil))) sNext))
    (h := h) (j := h.length) (freeAt (S l) n) (fun σ => ∃ a b, σ = [some (.ref p), some (.int n), some (.ref h.length), a, b]) (w - n + 1).toNat (by omega) (Nat.le_refl _)
    (fun i σ g hi ⟨a, b, es⟩ G m => by
      subst es
      refine ⟨_, rfl, ?_⟩
      have lc := lc_map (mi := itR 0 n.toNat) (g := gN 4) (e := PM.e2 (bInX true noOp) (PM.e2 bAdd (eVar 3) (eVar 4)) (eFld ["Pattern"] "value_at" (eVar 0))) (σ := [some (.ref p), some (.int n), some (.ref h.length), some (.int i), none]) (h0 := g) (List.range n.toNat) (fun k => .int (0 + k)) (fun k => .bl (!(valM (S l) ((i : Int) + k)).isSome))
        (by rw [List.length_range, line_eq]; omega) (fun k acc => nx_rng 0 n.toNat k _) (fun k _ acc => by
          refine ⟨_, rfl, ?_⟩
          have G2 := G.trans (Gr.app (h := g) [Ob.lst acc])
          have q := inX_d (k := (i : Int) + k) (dct_at (G2.get e2)) true noOp
          simp [ins_at (G2.get e1), fv, q])
      have rg : rng1 [.int n] g = .ok (itR 0 n.toNat) g := rng1_i (by omega) (by omega)
      have al := all_l (f := fun ks => ks.all id) (lst_new g _) (blsOf_map (List.range n.toNat) fun k => !(valM (S l) ((i : Int) + k)).isSome)
      have fe : (List.map (fun (k : Nat) => !(valM (S l) ((i : Int) + k)).isSome) (List.range n.toNat)).all id = freeAt (S l) n i := by
        unfold freeAt
        rw [List.all_map]
        rfl
      rw [fe] at al
      have m2 : mutAt (g ++ [Ob.lst (List.map (fun (k : Nat) => W.bl !(valM (S l) ((i : Int) + k)).isSome) (List.range n.toNat))]) h.length = _ := (mut_app (mut_lt m)).trans m
      have lb : ∀ k, ((List.filter (freeAt (S l) n) (List.range k)).length) ≤ k := fun k => by
        have := List.length_filter_le (freeAt (S l) n) (List.range k)
        rwa [List.length_range] at this
      have G2 := G.trans (Gr.app (h := g) [Ob.lst (List.map (fun (k : Nat) => W.bl !(valM (S l) ((i : Int) + k)).isSome) (List.range n.toNat))])
      generalize hg2 : g ++ [Ob.lst (List.map (fun (k : Nat) => W.bl !(valM (S l) ((i : Int) + k)).isSome) (List.range n.toNat))] = g2 at *
      have lr : (itR 0 n.toNat).fuel = (List.range n.toNat).length := by simp
      have ec : (eLc (iRange rng1 (aCons (eVar 1) aNil)) [4] (gN 4) tYesM (PM.e2 (bInX true noOp) (PM.e2 bAdd (eVar 3) (eVar 4)) (eFld ["Pattern"] "value_at" (eVar 0)))) [some (.ref p), some (.int n), some (.ref h.length), some (.int i), b] g = .ok (.ref g.length) g2 := by
        simp only [ev_lc, ev_rng, ev_cons, ev_nil, ev_var, List.getElem?_cons_zero, List.getElem?_cons_succ, R.bind_ok, rg, lr]
        exact lc
      cases hf : freeAt (S l) n i with
      | false =>
        refine ⟨[some (.ref p), some (.int n), some (.ref h.length), some (.int i), b], g2, ?_, ⟨_, _, rfl⟩, G2, ?_⟩
        · rw [hf] at al
          simp only [ev_sif, ev_tru, ev_call, ev_cons, ev_nil, List.set_cons_zero, List.set_cons_succ, ec, R.bind_ok, al, tru_bl, R.st_ok, Bool.false_eq_true, if_false, ev_next]
        · rw [take_succ_f, hf, m2]; simp
      | true =>
        refine ⟨[some (.ref p), some (.int n), some (.ref h.length), some (.int i), b], g2.set h.length (.lst (((List.range i).filter (freeAt (S l) n)).map (fun (s : Nat) => W.int (s : Int)) ++ [.int i])), ?_, ⟨_, _, rfl⟩, G2.set (Nat.le_refl _) _, ?_⟩
        · rw [hf] at al
          have bt := bty_l (lst_of_mut m2)
          have lz : ((List.range i).filter (freeAt (S l) n)).length < 16777216 := by
            have := lb i; omega
          simp only [ev_sif, ev_tru, ev_call, ev_cons, ev_nil, List.set_cons_zero, List.set_cons_succ, ec, R.bind_ok, al, tru_bl, R.st_ok, if_true, ev_expr, ev_bm, ev_var, List.getElem?_cons_zero, List.getElem?_cons_succ, bt]
          simp [bApp, m2, line_eq, lz]
        · rw [take_succ_f, hf, mut_set (mut_lt m2)]; simp) (σ0 := [some (.ref p), some (.int n), some (.ref h.length), none, none]) (g := h ++ [Ob.lst []]) ⟨_, _, rfl⟩ (.app _) (mut_new _ _)
  subst f2
  refine ⟨g', ?_, f3, ?_⟩
  · refine run_f rfl rfl ?_
    have rg : ∀ g, rng1 [.int (w - n + 1)] g = .ok (itR 0 (w - n + 1).toNat) g := fun g => rng1_i (by omega) (by omega)
    have G1 : Gr h (h ++ [Ob.lst []]) := .app _
    simp [is_int, n1, n2, line_eq, ins_at (G1.get e1), fw, rg]
    rw [f1]
    simp
  · rw [f4]
    unfold runsOf
    rw [show freeAt (S l) n = freeAt l n from funext fS, List.map_map]
    rfl
theorem range_cut (p : Nat → Bool) (a b : Nat) : (List.range (a + b)).filter (fun s => decide (s < a) && p s) = (List.range a).filter p := by
  rw [List.range_add, List.filter_append]
  have h1 : (List.range a).filter (fun s => decide (s < a) && p s) = (List.range a).filter p := List.filter_congr fun s hs => by
    have := List.mem_range.mp hs
    simp [this]
  have h2 : ((List.range b).map (a + ·)).filter (fun s => decide (s < a) && p s) = [] := List.filter_eq_nil_iff.mpr fun s hs => by
    obtain ⟨t, _, rfl⟩ := List.mem_map.mp hs
    simp
    intro z
    omega
  rw [h1, h2, List.append_nil]
theorem law_runs {r : Nat} {w n : Int} {l : DI} {h : MH} (er : h[r]? = some (.dct (D l))) (h1 : 1 ≤ w) (h2 : w ≤ 66) (n1 : 1 ≤ n) (n2 : n ≤ 66) :
    ∃ h', m__law_runs [.int w, .ref r, .int n] h = .ok (.ref h.length) h' ∧ Gr h h' ∧ mutAt h' h.length = some ((runsOf w l n).map W.int) := by
  let p : Nat → Bool := fun s => decide (s < (w - n + 1).toNat) && freeAt l n s
  have lb : ∀ k, ((List.filter p (List.range k)).length) ≤ k := fun k => by
    have := List.length_filter_le p (List.range k)
    rwa [List.length_range] at this
  obtain ⟨σ', g', f1, ⟨a, b, f2⟩, f3, f4⟩ := grow (v := 4) (body := (sIf (tAndM (tTru (e2 bLe (e2 bAdd (eVar 4) (eVar 2)) (eVar 0))) (tTru (e2 (bEqX (bEqI "Pattern" CS NF_Pattern (fun ws => m_Pattern___eq__ ws))) (eLc (iRange rng1 (aCons (eVar 2) aNil)) [5] (gN 5) (tTru (e2 (bInX false noOp) (e2 bAdd (eVar 4) (eVar 5)) (eVar 1))) (eVar 5)) (eLst aNil)))) (sExpr (eBM "list" bApp (eVar 3) (aCons (eVar 4) aNil))) sNext))
    (h := h) (j := h.length) p (fun σ => ∃ a b, σ = [some (.int w), some (.ref r), some (.int n), some (.ref h.length), a, b]) w.toNat (by omega) (Nat.le_refl _)
    (fun i σ g hi ⟨a, b, es⟩ G m => by
      subst es
      refine ⟨_, rfl, ?_⟩
      simp only [List.set_cons_zero, List.set_cons_succ]
      by_cases hf : (i : Int) + n ≤ w
      case neg =>
        have pf : p i = false := by
          have : ¬ i < (w - n + 1).toNat := by omega
          show (decide (i < (w - n + 1).toNat) && freeAt l n i) = false
          rw [decide_eq_false this]
          rfl
        refine ⟨[some (.int w), some (.ref r), some (.int n), some (.ref h.length), some (.int i), b], g, ?_, ⟨_, _, rfl⟩, G, ?_⟩
        · simp [hf]
        · rw [take_succ_f, pf, m]; simp
      have pf : p i = freeAt l n i := by
        have : i < (w - n + 1).toNat := by omega
        show (decide (i < (w - n + 1).toNat) && freeAt l n i) = _
        rw [decide_eq_true this]
        rfl
      have lc := lc_pure (mi := itR 0 n.toNat) (g := gN 5) (t := tTru (e2 (bInX false noOp) (e2 bAdd (eVar 4) (eVar 5)) (eVar 1))) (e := eVar 5) (σ := [some (.int w), some (.ref r), some (.int n), some (.ref h.length), some (.int i), none]) (h0 := g) (List.range n.toNat) (fun k => .int (0 + k)) (fun k => (valM l ((i : Int) + k)).isSome) (fun k => .int (0 + k))
        (by rw [List.length_range, line_eq]; omega) (fun k acc => nx_rng 0 n.toNat k _) (fun k _ acc => by
          refine ⟨_, rfl, ?_, fun _ => rfl⟩
          have G2 := G.trans (Gr.app (h := g) [Ob.lst acc])
          have q := inX_d (k := (i : Int) + k) (dct_at (G2.get er)) false noOp
          simp [q])
      have rg : rng1 [.int n] g = .ok (itR 0 n.toNat) g := rng1_i (by omega) (by omega)
      have lr : (itR 0 n.toNat).fuel = (List.range n.toNat).length := by simp
      have mm : (List.filter (fun k => (valM l ((i : Int) + (k : Nat))).isSome) (List.range n.toNat)).map (fun (k : Nat) => W.int (0 + k)) = ((List.filter (fun k => (valM l ((i : Int) + (k : Nat))).isSome) (List.range n.toNat)).map fun (k : Nat) => (k : Int)).map W.int := by simp
      rw [mm] at lc
      have fe : decide (((List.filter (fun k => (valM l ((i : Int) + (k : Nat))).isSome) (List.range n.toNat)).map fun (k : Nat) => (k : Int)) = []) = freeAt l n i := by
        unfold freeAt
        rw [Bool.eq_iff_iff]
        simp [List.filter_eq_nil_iff]
      generalize hx : ((List.filter (fun k => (valM l ((i : Int) + (k : Nat))).isSome) (List.range n.toNat)).map fun (k : Nat) => (k : Int)) = xs at *
      have G2 := Gr.app (h := g) [Ob.lst (xs.map W.int)]
      have l2 := lst_new g (xs.map W.int)
      generalize hg2 : g ++ [Ob.lst (xs.map W.int)] = g2 at *
      have ec : (eLc (iRange rng1 (aCons (eVar 2) aNil)) [5] (gN 5) (tTru (e2 (bInX false noOp) (e2 bAdd (eVar 4) (eVar 5)) (eVar 1))) (eVar 5)) [some (.int w), some (.ref r), some (.int n), some (.ref h.length), some (.int i), b] g = .ok (.ref g.length) g2 := by
        simp only [ev_lc, ev_rng, ev_cons, ev_nil, ev_var, List.getElem?_cons_zero, List.getElem?_cons_succ, R.bind_ok, rg, lr]
        exact lc
      have G3 := Gr.app (h := g2) [Ob.lst []]
      have l3 := G3.lst l2
      have l4 := lst_new g2 []
      generalize hg3 : g2 ++ [Ob.lst []] = g3 at *
      have eq : ∀ f, bEqX f (.ref g.length) (.ref g2.length) g3 = .ok (.bl (freeAt l n i)) g3 := fun f => by
        rw [eqx_l l3, eq_ints (m := []) l3 l4, fe]
      have eL : (eLst aNil) [some (.int w), some (.ref r), some (.int n), some (.ref h.length), some (.int i), b] g2 = .ok (.ref g2.length) g3 := by
        simp [line_eq, hg3]
      have m3 : mutAt g3 h.length = mutAt g h.length := by
        rw [← hg3, ← hg2, mut_app, mut_app (mut_lt m)]
        have := mut_lt m
        simp; omega
      have tt : (tTru (e2 (bEqX (bEqI "Pattern" CS NF_Pattern (fun ws => m_Pattern___eq__ ws))) (eLc (iRange rng1 (aCons (eVar 2) aNil)) [5] (gN 5) (tTru (e2 (bInX false noOp) (e2 bAdd (eVar 4) (eVar 5)) (eVar 1))) (eVar 5)) (eLst aNil))) [some (.int w), some (.ref r), some (.int n), some (.ref h.length), some (.int i), b] g = .ok (freeAt l n i) g3 := by
        simp only [ev_tru, ev_e2, ec, R.bind_ok, eL, eq, tru_bl]
      have tl : (tTru (e2 bLe (e2 bAdd (eVar 4) (eVar 2)) (eVar 0))) [some (.int w), some (.ref r), some (.int n), some (.ref h.length), some (.int i), b] g = .ok true g := by
        simp [hf]
      cases hq : freeAt l n i with
      | false =>
        refine ⟨[some (.int w), some (.ref r), some (.int n), some (.ref h.length), some (.int i), b], g3, ?_, ⟨_, _, rfl⟩, G.trans (G2.trans G3), ?_⟩
        · rw [hq] at tt
          simp only [ev_sif, ev_tand, tl, tt, R.bind_ok, R.st_ok, if_true, Bool.false_eq_true, if_false, ev_next]
        · rw [take_succ_f, pf, hq, m3, m]; simp
      | true =>
        refine ⟨[some (.int w), some (.ref r), some (.int n), some (.ref h.length), some (.int i), b], g3.set h.length (.lst (((List.range i).filter p).map (fun (s : Nat) => W.int (s : Int)) ++ [.int i])), ?_, ⟨_, _, rfl⟩, (G.trans (G2.trans G3)).set (Nat.le_refl _) _, ?_⟩
        · rw [hq] at tt
          rw [m] at m3
          have bt := bty_l (lst_of_mut m3)
          have lz : ((List.range i).filter p).length < 16777216 := by
            have := lb i; omega
          simp only [ev_sif, ev_tand, tl, tt, R.bind_ok, R.st_ok, if_true, ev_expr, ev_bm, ev_var, List.getElem?_cons_zero, List.getElem?_cons_succ, bt, ev_cons, ev_nil]
          simp [bApp, m3, line_eq, lz]
        · rw [m] at m3
          rw [take_succ_f, pf, hq, mut_set (mut_lt m3)]; simp) (σ0 := [some (.int w), some (.ref r), some (.int n), some (.ref h.length), none, none]) (g := h ++ [Ob.lst []]) ⟨_, _, rfl⟩ (.app _) (mut_new _ _)
  subst f2
  refine ⟨g', ?_, f3, ?_⟩
  · refine run_f rfl rfl ?_
    have rg : ∀ g, rng1 [.int w] g = .ok (itR 0 w.toNat) g := fun g => rng1_i (by omega) (by omega)
    simp [line_eq, rg]
    rw [f1]
    simp
  · rw [f4]
    have := range_cut (freeAt l n) (w - n + 1).toNat (w.toNat - (w - n + 1).toNat)
    rw [show (w - n + 1).toNat + (w.toNat - (w - n + 1).toNat) = w.toNat by omega] at this
    unfold runsOf
    rw [show List.filter p (List.range w.toNat) = _ from this, List.map_map]
    rfl
end K07
namespace K07
open PySem L2 PM
theorem Bx.ne {b N : Nat} {h : MH} (B : Bx b N h) {i : Nat} {o : Ob} (e : h[i]? = some o) (n : ∀ xs, o ≠ .lst xs) : i ≠ b := fun z => by
  subst z
  obtain ⟨x, y, z, m, _⟩ := B
  rw [mutAt_eq m] at e
  cases e
  exact n _ rfl
theorem Pt.fr {b N : Nat} {h h' : MH} {p : Nat} {w : Int} {l : DI} (P : Pt h p w l) (B : Bx b N h) (F : Fr b h h') : Pt h' p w l := by
  obtain ⟨d, e1, e2⟩ := P
  exact ⟨d, F.get (B.ne e1 fun _ z => nomatch z) e1, F.get (B.ne e2 fun _ z => nomatch z) e2⟩
theorem Cl.put {w : Int} {l : DI} (c : Cl w l) {k v : Int} (h1 : 0 ≤ k ∧ k < w) (h2 : 0 ≤ v ∧ v ≤ 999) : Cl w (putM l k v) := ⟨nodup_put c.nd k v, fun p hp => (mem_put hp).elim (c.ok p) fun e => by subst e; exact ⟨h1.1, h1.2, h2.1, h2.2⟩⟩
/-- what stands during the drawing of cells -/
structure CI (b N : Nat) (w : Int) (lf cd : Nat) (h0 : MH) (left : List Int) (l : DI) (g : MH) : Prop where
  F : Fr b h0 g
  ml : mutAt g lf = some (left.map W.int)
  md : g[cd]? = some (.dct (D l))
  nd : left.Nodup
  rg : ∀ k ∈ left, 0 ≤ k ∧ k < w
  dj : ∀ k ∈ left, k ∉ l.map (·.1)
  c : Cl w l
  B : Bx b N g
theorem ixN_nat {n : Nat} {k : Int} (h0 : 0 ≤ k) (h1 : k < n) : ixN n k = some k.toNat := by
  unfold ixN
  rw [if_pos h0, if_pos h1]
theorem map_erase (f : Int → W) : ∀ (xs : List Int) (n : Nat), (xs.map f).eraseIdx n = (xs.eraseIdx n).map f
  | [], _ => rfl
  | x :: xs, 0 => rfl
  | x :: xs, n + 1 => by simp [map_erase f xs n]
theorem pop_i {j : Nat} {h : MH} {xs : List Int} {k : Int} (m : mutAt h j = some (xs.map W.int)) (h0 : 0 ≤ k) (h1 : k < xs.length) : ∃ y, xs[k.toNat]? = some y ∧ bPop [.ref j, .int k] h = .ok (.int y) (h.set j (.lst ((xs.eraseIdx k.toNat).map W.int))) := by
  have lt : k.toNat < xs.length := by omega
  refine ⟨xs[k.toNat], List.getElem?_eq_getElem lt, ?_⟩
  have q := ixN_nat (n := (xs.map W.int).length) h0 (by simpa using h1)
  simp only [bPop, m, q]
  rw [List.getElem?_map, List.getElem?_eq_getElem lt]
  simp [map_erase]
def cBody : SM := (sSeq (sSet 5 (eAlt (eBM "list" bPop (eVar 2) (aCons (eCall m__law_take (aCons (eVar 0) (aCons (eCall bLen (aCons (eVar 2) aNil)) aNil))) aNil)) (eBM "dict" bDpop (eVar 2) (aCons (eCall m__law_take (aCons (eVar 0) (aCons (eCall bLen (aCons (eVar 2) aNil)) aNil))) aNil))))
    (sSetA (eVar 3) (eVar 5) (e2 bIxX (eLst (aCons (eC (.int 0)) (aCons (eC (.int 999)) (aCons (eCall m__law_take (aCons (eVar 0) (aCons (eC (.int 3)) aNil))) (aCons (eCall m__law_take (aCons (eVar 0) (aCons (eC (.int 1000)) aNil))) aNil))))) (eCall m__law_take (aCons (eVar 0) (aCons (eC (.int 4)) aNil))))))
theorem content_step {b N : Nat} {w : Int} {lf cd : Nat} {h0 : MH} {left : List Int} {l : DI} {g : MH} {a c : Option W} (I : CI b N w lf cd h0 left l g) (hl : h0.length ≤ lf) (hc : h0.length ≤ cd) (hb : b < h0.length) (hlc : lf ≠ cd) (hN : N ≤ 100000) (h2 : w ≤ 66) (ne : 0 < left.length) :
    ∃ g' left' l' y, cBody [some (.ref b), some (.int w), some (.ref lf), some (.ref cd), a, c] g = .nx [some (.ref b), some (.int w), some (.ref lf), some (.ref cd), a, some (.int y)] g' ∧ CI b (N + 4) w lf cd h0 left' l' g' ∧ left'.length + 1 = left.length := by
  have lb : lf ≠ b := by omega
  have cb : cd ≠ b := by omega
  have l66 : left.length ≤ 66 := few 66 left I.nd fun k z => by have := I.rg k z; omega
  obtain ⟨r1, g1, t1, r10, r11, F1, _, B1⟩ := take (m := left.length) I.B (by omega) (by omega) (by omega)
  have ml1 := F1.mut lb I.ml
  obtain ⟨y, ey, pp⟩ := pop_i ml1 r10 r11
  have lt1 := mut_lt ml1
  have md1 := F1.get cb I.md
  have B2 := B1.set (o := .lst ((left.eraseIdx r1.toNat).map W.int)) lb
  have ml2 := mut_set (xs := (left.eraseIdx r1.toNat).map W.int) lt1
  have md2 : (g1.set lf (.lst ((left.eraseIdx r1.toNat).map W.int)))[cd]? = some (.dct (D l)) := by
    rw [List.getElem?_set_ne hlc]; exact md1
  have F2 : Fr b h0 (g1.set lf (.lst ((left.eraseIdx r1.toNat).map W.int))) := (I.F.trans F1).set_new hl
  generalize hg2 : g1.set lf (.lst ((left.eraseIdx r1.toNat).map W.int)) = g2 at *
  obtain ⟨r3, g3, t3, r30, r31, F3, _, B3⟩ := take (m := 3) B2 (by omega) (by decide) (by decide)
  obtain ⟨r4, g4, t4, r40, r41, F4, _, B4⟩ := take (m := 1000) B3 (by omega) (by decide) (by decide)
  obtain ⟨r5, x, g5, t5, ix, mx, F5, B5⟩ := pick (m := 4) [0, 999, r3, r4] B4 (by omega) rfl (by decide) (by decide)
  have x9 : 0 ≤ x ∧ x ≤ 999 := by
    simp only [List.mem_cons, List.not_mem_nil, or_false] at mx
    omega
  have FF := (F3.trans F4).trans F5
  have md5 := FF.get cb md2
  have ml5 := FF.mut lb ml2
  have cl := I.c.len h2
  have yl : y ∈ left := List.mem_of_getElem? ey
  have pa := putA_d (k := y) (v := x) md5 (by rw [line_eq]; omega)
  have t5' : m__law_take [.ref b, .int 4] (g4 ++ [Ob.lst [.int 0, .int 999, .int r3, .int r4]]) = _ := t5
  have ln : bLen [.ref lf] g = .ok (.int left.length) g := by rw [len_l (lst_of_mut I.ml)]; simp
  have bt := bty_l (lst_of_mut I.ml)
  refine ⟨g5.set cd (.dct (D (putM l y x))), left.eraseIdx r1.toNat, putM l y x, y, ?_, ⟨(F2.trans FF).set_new hc, ?_, ?_, ?_, ?_, ?_, ?_, ?_⟩, ?_⟩
  · simp [cBody, bt, ln, t1, pp, t3, t4, line_eq, t5', ix, pa]
  · rw [mut_set_ne (Ne.symm hlc)]; exact ml5
  · exact List.getElem?_set_self (get_lt md5)
  · exact I.nd.sublist (List.eraseIdx_sublist _ _)
  · exact fun k z => I.rg k (List.mem_of_mem_eraseIdx z)
  · intro k z q
    have kl := List.mem_of_mem_eraseIdx z
    rw [keys_put] at q
    split at q
    · exact I.dj k kl q
    · rcases List.mem_append.mp q with q | q
      · exact I.dj k kl q
      · have q : k = y := by simpa using q
        subst q
        obtain ⟨i, hi, e⟩ := List.mem_eraseIdx_iff_getElem?.mp z
        exact hi ((List.getElem?_inj (by
          exact (List.getElem?_eq_some_iff.mp e).1) I.nd).mp (e.trans ey.symm))
  · exact I.c.put (I.rg y yl) x9
  · exact (B5.mono (by omega)).set cb
  · have lt : r1.toNat < left.length := by omega
    rw [List.length_eraseIdx_of_lt lt]
    omega
theorem content {b N : Nat} {h : MH} (B : Bx b N h) (hN : N ≤ 10000) :
    ∃ h' w r l, m__law_content [.ref b] h = .ok (.tup [.int w, .ref r]) h' ∧ Fr b h h' ∧ Bx b (N + 400) h' ∧ h'[r]? = some (.dct (D l)) ∧ Cl w l ∧ 1 ≤ w ∧ w ≤ 66 := by
  have hb := B.lt
  obtain ⟨r1, x, h1, t1, ix, mx, F1, B1⟩ := pick (m := 4) [4, 8, 12, 66] B (by omega) rfl (by decide) (by decide)
  have x9 : 4 ≤ x ∧ x ≤ 66 := by
    simp only [List.mem_cons, List.not_mem_nil, or_false] at mx
    omega
  obtain ⟨r2, h2, t2, r20, r21, F2, _, B2⟩ := take (m := x) B1 (by omega) (by omega) (by omega)
  have F12 := F1.trans F2
  have l2 := F12.le
  generalize hw : 1 + r2 = w
  have w1 : 1 ≤ w := by omega
  have w2 : w ≤ 66 := by omega
  generalize hlw : rgW 0 w = lw
  have elw : lw = ((List.range w.toNat).map fun (k : Nat) => (k : Int)).map W.int := by
    rw [← hlw]
    unfold rgW
    simp
  have e2 : (h2 ++ [Ob.lst lw])[h2.length]? = some (.lst lw) := at_end _ _
  generalize hh3 : h2 ++ [Ob.lst lw] = h3 at e2
  have G3 : Gr h2 h3 := hh3 ▸ .app _
  have lh3 : h3.length = h2.length + 1 := by rw [← hh3]; simp
  have G4 : Gr h3 (h3 ++ [Ob.dct []]) := .app _
  have e3 : (h3 ++ [Ob.dct []])[h3.length]? = some (.dct []) := at_end _ _
  generalize hh4 : h3 ++ [Ob.dct []] = h4 at e3 G4
  have B4 := B2.gr (G3.trans G4)
  obtain ⟨r5, h5, t5, r50, r51, F5, _, B5⟩ := take (m := w + 1) B4 (by omega) (by omega) (by omega)
  have FF : Fr b h h5 := (F12.trans (G3.trans G4).fr).trans F5
  have ne1 : h2.length ≠ b := by omega
  have I0 : CI b (N + 4) w h2.length h3.length h ((List.range w.toNat).map fun (k : Nat) => (k : Int)) [] h5 := by
    refine ⟨FF, ?_, ?_, ?_, ?_, fun _ _ z => (by cases z), ⟨List.nodup_nil, fun p z => by cases z⟩, B5.mono (by omega)⟩
    · unfold mutAt
      rw [F5.get ne1 (G4.get e2), elw]
    · exact F5.get (by omega) e3
    · have : (List.range w.toNat).Nodup := List.nodup_range
      exact List.Pairwise.map _ (fun a b z q => z (Int.ofNat.inj q)) this
    · intro k hk
      obtain ⟨n, hn, rfl⟩ := List.mem_map.mp hk
      have := List.mem_range.mp hn
      omega
  generalize hle : ((List.range w.toNat).map fun (k : Nat) => (k : Int)) = left at I0
  have ll : left.length = w.toNat := by rw [← hle]; simp
  obtain ⟨σ', g', f1, lf', l', a, c, es, I, _⟩ := for_inv (mi := itR 0 r5.toNat) (g := gN 4) (body := cBody)
    (fun i σ g => ∃ lf' l' a c, σ = [some (.ref b), some (.int w), some (.ref h2.length), some (.ref h3.length), a, c] ∧ CI b (N + 4 + 4 * i) w h2.length h3.length h lf' l' g ∧ lf'.length + i = w.toNat) r5.toNat
    (fun σ g _ => by rw [nx_rng]; simp) (fun i σ g hi ⟨lf', l', a, c, es, I, el⟩ => by
      subst es
      obtain ⟨g', lf2, l2', y, s1, I2, s2⟩ := content_step (a := some (.int (i : Int))) (c := c) I (by omega) (by omega) hb (by omega) (by omega) w2 (by omega)
      exact ⟨.int i, _, by rw [nx_rng]; simp [hi], rfl, _, g', s1, lf2, l2', _, _, rfl, by rw [show N + 4 + 4 * (i + 1) = N + 4 + 4 * i + 4 by omega]; exact I2, by omega⟩) r5.toNat 0 [some (.ref b), some (.int w), some (.ref h2.length), some (.ref h3.length), none, none] h5 (by omega) ⟨left, [], none, none, rfl, I0, by omega⟩
  subst es
  refine ⟨g', w, h3.length, l', ?_, I.F, I.B.mono (by omega), I.md, I.c, w1, w2⟩
  have rg : ∀ g, rng1 [.int r5] g = .ok (itR 0 r5.toNat) g := fun g => rng1_i (by omega) (by omega)
  have t1' : m__law_take [.ref b, .int 4] (h ++ [Ob.lst [.int 4, .int 8, .int 12, .int 66]]) = _ := t1
  have ok : rgOk 0 w = true := by
    unfold rgOk
    exact decide_eq_true (by omega)
  refine run_f rfl rfl ?_
  unfold cBody at f1
  simp [line_eq, t1', ix, t2, hw, ok, hlw]
  have hh5 : h2 ++ [Ob.lst lw, Ob.dct []] = h4 := by rw [← hh4, ← hh3]; simp
  rw [hh5]
  rw [lh3] at f1
  simp [t5, rg]
  rw [f1]
  simp [line_eq, lh3]
end K07
namespace K07
open PySem L2 PM
/-- a pattern, a dict of the same cells -/
def Pr (h : MH) (q r : Nat) (w : Int) (l : DI) : Prop := Pt h q w l ∧ h[r]? = some (.dct (D l)) ∧ Cl w l
theorem Pr.gr {h h' : MH} {q r : Nat} {w : Int} {l : DI} (P : Pr h q r w l) (g : Gr h h') : Pr h' q r w l := ⟨P.1.gr g, g.get P.2.1, P.2.2⟩
theorem Pr.fr {b N : Nat} {h h' : MH} {q r : Nat} {w : Int} {l : DI} (P : Pr h q r w l) (B : Bx b N h) (F : Fr b h h') : Pr h' q r w l := ⟨P.1.fr B F, F.get (B.ne P.2.1 fun _ z => nomatch z) P.2.1, P.2.2⟩
theorem dict_of {i : Nat} {h : MH} {kvs : List (Key × W)} (e : h[i]? = some (.dct kvs)) : bDict [.ref i] h = .ok (.ref h.length) (h ++ [.dct kvs]) := by
  simp [bDict, dct_at e]
theorem list_of_d {i : Nat} {h : MH} {l : DI} (e : h[i]? = some (.dct (D l))) : bList [.ref i] h = .ok (.ref h.length) (h ++ [.lst ((l.map (·.1)).map W.int)]) := by
  simp [bList, lst_none_d e, dct_at e, D_keyW]
theorem list_of_l {i : Nat} {h : MH} {xs : List W} (e : lstAt h i = some xs) : bList [.ref i] h = .ok (.ref h.length) (h ++ [.lst xs]) := by
  simp [bList, e]
def aBody : SM := (sSetA (eVar 5) (eCall m__law_take (aCons (eVar 0) (aCons (eVar 2) aNil))) (eCall m__law_take (aCons (eVar 0) (aCons (eC (.int 1000)) aNil))))
/-- new cells, drawn -/
theorem new_cells {b p c4 c5 n : Nat} {w : Int} {h0 g : MH} {N : Nat} {x3 : Option W} {ys : MS} (hb : b < h0.length) (F : Fr b h0 g) (B : Bx b N g) (h1 : 1 ≤ w) (h2 : w ≤ 66) (hN : N ≤ 100000) (n9 : n ≤ 100) (hc : h0.length ≤ c5) (e5 : g[c5]? = some (.dct [])) (e6 : ys.length = 5) :
    ∃ g' a l, forGo (itR 0 n) (gN 6) aBody n 0 ([some (.ref b), some (.ref p), some (.int w), x3, some (.ref c4), some (.ref c5)] ++ (none :: ys)) g = .nx ([some (.ref b), some (.ref p), some (.int w), x3, some (.ref c4), some (.ref c5)] ++ (a :: ys)) g' ∧ Fr b h0 g' ∧ Bx b (N + 2 * n) g' ∧ g'[c5]? = some (.dct (D l)) ∧ Cl w l := by
  obtain ⟨σ', g', f1, a, l, es, F, B, e, c, _⟩ := for_inv (mi := itR 0 n) (g := gN 6) (body := aBody)
    (fun i σ g => ∃ a l, σ = [some (.ref b), some (.ref p), some (.int w), x3, some (.ref c4), some (.ref c5)] ++ (a :: ys) ∧ Fr b h0 g ∧ Bx b (N + 2 * i) g ∧ g[c5]? = some (.dct (D l)) ∧ Cl w l ∧ l.length ≤ 66) n
    (fun σ g _ => by rw [nx_rng]; simp) (fun i σ g hi ⟨a, l, es, F, B, e, c, _⟩ => by
      subst es
      obtain ⟨r1, g1, t1, r10, r11, F1, _, B1⟩ := take (m := 1000) B (by omega) (by omega) (by omega)
      obtain ⟨r2, g2, t2, r20, r21, F2, _, B2⟩ := take (m := w) B1 (by omega) (by omega) (by omega)
      have cb : c5 ≠ b := by omega
      have e2 := F2.get cb (F1.get cb e)
      have cl := c.len h2
      have pa := putA_d (k := r2) (v := r1) e2 (by rw [line_eq]; omega)
      have cp := c.put (k := r2) (v := r1) ⟨r20, r21⟩ ⟨r10, by omega⟩
      refine ⟨.int i, _, by rw [nx_rng]; simp [hi], rfl, [some (.ref b), some (.ref p), some (.int w), x3, some (.ref c4), some (.ref c5)] ++ (some (.int (i : Int)) :: ys), g2.set c5 (.dct (D (putM l r2 r1))), ?_, _, _, rfl, ((F.trans F1).trans F2).set_new hc, (B2.mono (by omega)).set cb, List.getElem?_set_self (get_lt e2), cp, cp.len h2⟩
      simp [aBody, t1, t2, pa]) n 0 _ g (by omega) ⟨none, [], rfl, F, B.mono (by omega), e5, ⟨List.nodup_nil, fun p z => by cases z⟩, by simp⟩
  subst es
  exact ⟨g', a, l, f1, F, B, e, c⟩
theorem change_a {b N p r : Nat} {w : Int} {l : DI} {h : MH} (B : Bx b N h) (P : Pr h p r w l) (h1 : 1 ≤ w) (h2 : w ≤ 66) (hN : N ≤ 90000) 
    (h' : MH) (tk : m__law_take [.ref b, .int 2] (h ++ [Ob.dct (D l)]) = .ok (.int 0) h') (F0 : Fr b h h') (B0 : Bx b (N + 1) h') (e4 : h'[h.length]? = some (.dct (D l))) :
    ∃ g q r2 l2, m__law_change [.ref b, .ref p, .int w, .ref r] h = .ok (.tup [.ref q, .ref r2]) g ∧ Fr b h g ∧ Bx b (N + 400) g ∧ Pr g q r2 w l2 := by
  have hb := B.lt
  have lh := F0.le
  have e5 : (h' ++ [Ob.dct []])[h'.length]? = some (.dct []) := at_end _ _
  have G5 : Gr h' (h' ++ [Ob.dct []]) := .app _
  generalize hh5 : h' ++ [Ob.dct []] = h5 at e5 G5
  have lh5 : h5.length = h'.length + 1 := by rw [← hh5]; simp
  have B5 := B0.gr G5
  obtain ⟨r1, x, g1, t1, ix, mx, F1, B1⟩ := pick (m := 2) [4, (if (14 : Int) < w then 14 else w) + 1] B5 (by omega) rfl (by decide) (by decide)
  have x9 : 1 ≤ x ∧ x ≤ 15 := by
    simp only [List.mem_cons, List.not_mem_nil, or_false] at mx
    rcases mx with rfl | rfl
    · omega
    · split <;> omega
  obtain ⟨r2, g2, t2, r20, r21, F2, _, B2⟩ := take (m := x) B1 (by omega) (by omega) (by omega)
  have FF : Fr b h' g2 := (G5.fr.trans F1).trans F2
  have nb : h'.length ≠ b := by omega
  have e5' := F2.get nb (F1.get nb e5)
  obtain ⟨g3, a, m, f3, F3, B3, e3, c3⟩ := new_cells (b := b) (p := p) (c4 := h.length) (c5 := h'.length) (n := r2.toNat) (w := w) (h0 := h') (g := g2) (x3 := some (.ref r)) (ys := [none, none, none, none, none]) (by omega) FF B2 h1 h2 (by omega) (by omega) (Nat.le_refl _) e5' rfl
  have P3 := (P.fr B F0).fr B0 F3
  have n4 : h.length ≠ b := by omega
  have lt4 := get_lt e4
  have e43 : g3[h.length]? = some (.dct (D l)) := F3.get n4 e4
  have d7 := dict_of e3
  have G4 : Gr g3 (g3 ++ [Ob.dct (D m)]) := .app _
  have e7 : (g3 ++ [Ob.dct (D m)])[g3.length]? = some (.dct (D m)) := at_end _ _
  generalize hg4 : g3 ++ [Ob.dct (D m)] = g4 at d7 G4 e7
  have P4 := P3.gr G4
  obtain ⟨g5, q, wc, G5', Pq⟩ := with_cells P4.1 (G4.get e3) P.2.2 c3 h1 h2
  have e45 := G5'.get (G4.get e43)
  have e55 := G5'.get (G4.get e3)
  have e75 := G5'.get e7
  have ne : ∀ f, bNeX f (.ref h'.length) (.ref g3.length) g5 = .ok (.bl false) g5 := fun f => by
    rw [nex_d (dct_at e55)]
    exact eqD_same (dct_at e55) (dct_at e75) c3.nd c3.nd fun _ => rfl
  have l1 := P.2.2.len h2
  have l3 := c3.len h2
  have n45 : h.length ≠ h'.length := by omega
  have up : bDupd [.ref h.length, .ref h'.length] g5 = .ok .non (g5.set h.length (.dct (D (mergeM l m)))) := by
    simp only [bDupd, if_neg n45, e45, e55]
    rw [if_pos (by rw [D_len, D_len, line_eq]; omega), D_merge]
  have e56 : (g5.set h.length (.dct (D (mergeM l m))))[h'.length]? = some (.dct (D m)) := by
    rw [List.getElem?_set_ne n45]; exact e55
  have pa := putA_d (k := 0) (v := 7) e56 (by rw [line_eq]; omega)
  have lt3 := get_lt e3
  have l4 : g4.length = g3.length + 1 := by rw [← hg4]; simp
  have bd : bty (.ref h.length) g5 = some "dict" := bty_d (dct_at e45)
  refine ⟨(g5.set h.length (.dct (D (mergeM l m)))).set h'.length (.dct (D (putM m 0 7))), q, h.length, mergeM l m, ?_, ?_, ?_, ?_, ?_, ?_⟩
  · unfold aBody at f3
    have rg : ∀ g, rng1 [.int r2] g = .ok (itR 0 r2.toNat) g := fun g => rng1_i (by omega) (by omega)
    have d4 := dict_of P.2.1
    have t1' : m__law_take [.ref b, .int 2] (h' ++ [Ob.dct [], Ob.lst [.int 4, .int ((if (14 : Int) < w then 14 else w) + 1)]]) = .ok (.int r1) g1 := by
      rw [← t1, ← hh5]
      simp
    rw [lh5] at ix
    simp at f3
    obtain ⟨d, i1, i2⟩ := P4.1
    have fc : fldM [("pattern_width", W.int w), ("value_at", W.ref d)] "with_cells" = none := by
      simp [fldM]
      decide
    refine run_f rfl rfl ?_
    simp [d4, tk, hh5, lh5, line_eq, t1', ix, t2, rg, f3, d7, ins_at i1, metG, fc, wc, ne, bd, up, pa]

  · exact ((((F0.trans F3).trans G4.fr).trans G5'.fr).set_new (Nat.le_refl _)).set_new lh
  · exact ((((B3.gr G4).gr G5').set (by omega)).set (by omega)).mono (by omega)
  · exact ((Pq.set (by omega)).set (by omega)).pt
  · rw [List.getElem?_set_ne (Ne.symm n45)]
    exact List.getElem?_set_self (get_lt e45)
  · exact P.2.2.merge c3
def pBody : SM := (sExpr (eBM "list" bApp (eVar 10) (aCons (eAlt (eBM "list" bPop (eVar 9) (aCons (eCall m__law_take (aCons (eVar 0) (aCons (eCall bLen (aCons (eVar 9) aNil)) aNil))) aNil)) (eBM "dict" bDpop (eVar 9) (aCons (eCall m__law_take (aCons (eVar 0) (aCons (eCall bLen (aCons (eVar 9) aNil)) aNil))) aNil))) aNil)))
theorem erase_perm {y : Int} : ∀ {l : List Int} {n : Nat}, l[n]? = some y → (y :: l.eraseIdx n).Perm l
  | [], _, e => by simp at e
  | x :: l, 0, e => by
    simp at e
    subst e
    exact .refl _
  | x :: l, n + 1, e => (List.Perm.swap x y _).trans ((erase_perm (l := l) (n := n) (by simpa using e)).cons x)
/-- keys, drawn -/
theorem some_keys {b N c9 c10 n : Nat} {h0 g : MH} {ks : List Int} {xs : MS} (hb : b < h0.length) (F : Fr b h0 g) (B : Bx b N g) (hN : N ≤ 100000) (l66 : ks.length ≤ 66) (hn : n ≤ ks.length) (hc : h0.length ≤ c9) (hd : h0.length ≤ c10) (ne : c9 ≠ c10)
    (e9 : mutAt g c9 = some (ks.map W.int)) (e10 : mutAt g c10 = some []) (hx : xs.length = 5) :
    ∃ (g' : MH) (a : Option W) (ts : List Int), forGo (itR 0 n) (gN 6) pBody n 0 (some (.ref b) :: (xs ++ [none, none, none, some (.ref c9), some (.ref c10), none])) g = .nx (some (.ref b) :: (xs ++ [a, none, none, some (.ref c9), some (.ref c10), none])) g' ∧ Fr b h0 g' ∧ Bx b (N + n) g' ∧ mutAt g' c10 = some (ts.map W.int) ∧ ∃ left : List Int, (ts ++ left).Perm ks := by
  obtain ⟨x1, x2, x3, x4, x5, rfl⟩ : ∃ x1 x2 x3 x4 x5, xs = [x1, x2, x3, x4, x5] := by
    match xs, hx with
    | [x1, x2, x3, x4, x5], _ => exact ⟨_, _, _, _, _, rfl⟩
  obtain ⟨σ', g', f1, a, ts, left, es, F, B, e9, e10, pm, _⟩ := for_inv (mi := itR 0 n) (g := gN 6) (body := pBody)
    (fun i σ g => ∃ (a : Option W) (ts left : List Int), σ = [some (.ref b), x1, x2, x3, x4, x5, a, none, none, some (.ref c9), some (.ref c10), none] ∧ Fr b h0 g ∧ Bx b (N + i) g ∧ mutAt g c9 = some (left.map W.int) ∧ mutAt g c10 = some (ts.map W.int) ∧ (ts ++ left).Perm ks ∧ ts.length = i) n
    (fun σ g _ => by rw [nx_rng]; simp) (fun i σ g hi ⟨a, ts, left, es, F, B, e9, e10, pm, el⟩ => by
      subst es
      have pl := pm.length_eq
      rw [List.length_append] at pl
      obtain ⟨r1, g1, t1, r10, r11, F1, _, B1⟩ := take (m := left.length) B (by omega) (by omega) (by omega)
      have n9 : c9 ≠ b := by omega
      have n10 : c10 ≠ b := by omega
      obtain ⟨y, ey, pp⟩ := pop_i (F1.mut n9 e9) r10 r11
      have e102 := F1.mut n10 e10
      have e103 : mutAt (g1.set c9 (.lst ((left.eraseIdx r1.toNat).map W.int))) c10 = some (ts.map W.int) := by rw [mut_set_ne ne]; exact e102
      have lt9 := mut_lt (F1.mut n9 e9)
      have e93 := mut_set (xs := (left.eraseIdx r1.toNat).map W.int) lt9
      have ln : bLen [.ref c9] g = .ok (.int left.length) g := by rw [len_l (lst_of_mut e9)]; simp
      have b9 := bty_l (lst_of_mut e9)
      have b10 := bty_l (lst_of_mut e10)
      have tz : ts.length < 16777216 := by omega
      have ap : bApp [.ref c10, .int y] (g1.set c9 (.lst ((left.eraseIdx r1.toNat).map W.int))) = .ok .non ((g1.set c9 (.lst ((left.eraseIdx r1.toNat).map W.int))).set c10 (.lst ((ts ++ [y]).map W.int))) := by
        simp [bApp, e103, line_eq, tz]
      have B2 := (B1.set (o := .lst ((left.eraseIdx r1.toNat).map W.int)) n9).set (o := .lst ((ts ++ [y]).map W.int)) n10
      refine ⟨.int i, _, by rw [nx_rng]; simp [hi], rfl, [some (.ref b), x1, x2, x3, x4, x5, some (.int (i : Int)), none, none, some (.ref c9), some (.ref c10), none], _, ?_, _, ts ++ [y], left.eraseIdx r1.toNat, rfl, (((F.trans F1).set_new hc).set_new hd), B2.mono (by omega), ?_, mut_set (mut_lt e103), ?_, by simp [el]⟩
      · simp [pBody, b9, b10, ln, t1, pp, ap]
      · rw [mut_set_ne (Ne.symm ne)]; exact e93
      · have lt : r1.toNat < left.length := by omega
        have := erase_perm ey
        rw [List.append_assoc]
        exact (List.Perm.append_left ts this).trans pm) n 0 _ g (by omega) ⟨none, [], ks, rfl, F, B.mono (by omega), e9, e10, .refl _, rfl⟩
  subst es
  exact ⟨g', a, ts, f1, F, B, e10, left, pm⟩
end K07
namespace K07
open PySem L2 PM
def dBody : SM := (sExpr (eAlt (eBM "list" bPop (eVar 4) (aCons (eVar 11) aNil)) (eBM "dict" bDpop (eVar 4) (aCons (eVar 11) aNil))))
theorem set_same {h : MH} {i : Nat} {o : Ob} (e : h[i]? = some o) : h.set i o = h := by
  obtain ⟨hi, e⟩ := List.getElem?_eq_some_iff.mp e
  rw [← e, List.set_getElem_self]
/-- the drawn keys are taken off -/
theorem off_keys {c4 c10 : Nat} {l : DI} {ts : List Int} {g : MH} {xs : MS} (e4 : g[c4]? = some (.dct (D l))) (e10 : lstAt g c10 = some (ts.map W.int)) (ne : c4 ≠ c10) (nd : ts.Nodup) (hk : ∀ k ∈ ts, k ∈ l.map (·.1)) (hx : xs.length = 6) (x0 x1 x2 x3 : Option W) :
    ∃ a, forGo (itL c10 (ts.map W.int)) (gN 11) dBody ts.length 0 ([x0, x1, x2, x3, some (.ref c4)] ++ (xs ++ [none])) g = .nx ([x0, x1, x2, x3, some (.ref c4)] ++ (xs ++ [a])) (g.set c4 (.dct (D (dropL l ts)))) := by
  obtain ⟨y1, y2, y3, y4, y5, y6, rfl⟩ : ∃ x1 x2 x3 x4 x5 x6, xs = [x1, x2, x3, x4, x5, x6] := by
    match xs, hx with
    | [x1, x2, x3, x4, x5, x6], _ => exact ⟨_, _, _, _, _, _, rfl⟩
  have hg := get_lt e4
  obtain ⟨σ', g', f1, a, es, eg⟩ := for_inv (mi := itL c10 (ts.map W.int)) (g := gN 11) (body := dBody)
    (fun i σ h => ∃ a, σ = [x0, x1, x2, x3, some (.ref c4), y1, y2, y3, y4, y5, y6, a] ∧ h = g.set c4 (.dct (D (dropL l (ts.take i))))) ts.length
    (fun σ h ⟨a, es, eg⟩ => by subst eg; rw [nx_lst ((lst_set_ne ne).trans e10)]; simp) (fun i σ h hi ⟨a, es, eg⟩ => by
      subst es eg
      have ed : (g.set c4 (.dct (D (dropL l (ts.take i)))))[c4]? = some (.dct (D (dropL l (ts.take i)))) := List.getElem?_set_self hg
      have bd := bty_d (dct_at ed)
      have n1 : ts[i] ∉ ts.take i := fun z => by
        rw [← List.take_append_drop i ts, List.nodup_append] at nd
        exact nd.2.2 _ z _ (by rw [List.drop_eq_getElem_cons hi]; exact .head _) rfl
      have hv : ∃ v, valM (D (dropL l (ts.take i))) (Sum.inl ts[i]) = some v := by
        rw [D_val, val_dropL, if_neg n1]
        cases q : valM l ts[i] with
        | none => exact absurd (hk _ (List.getElem_mem hi)) (val_none.mp q)
        | some v => exact ⟨_, rfl⟩
      obtain ⟨v, hv⟩ := hv
      have cut : ts.take (i + 1) = ts.take i ++ [ts[i]] := by simp [hi]
      have pp : bDpop [.ref c4, .int ts[i]] (g.set c4 (.dct (D (dropL l (ts.take i))))) = .ok v (g.set c4 (.dct (D (dropL l (ts.take (i + 1)))))) := by
        simp only [bDpop, ed, keyOf, hv]
        rw [List.set_set, D_drop, cut, dropL_snoc]
      refine ⟨.int ts[i], _, by rw [nx_lst ((lst_set_ne ne).trans e10)]; simp [hi], rfl, [x0, x1, x2, x3, some (.ref c4), y1, y2, y3, y4, y5, y6, some (.int ts[i])], _, ?_, _, rfl, rfl⟩
      simp [dBody, bd, pp]) ts.length 0 _ g (by omega) ⟨none, rfl, by
        show g = g.set c4 (.dct (D l))
        rw [set_same e4]⟩
  subst es eg
  rw [List.take_length] at f1
  exact ⟨a, f1⟩
theorem change_b {b N p r : Nat} {w : Int} {l : DI} {h : MH} (B : Bx b N h) (P : Pr h p r w l) (h1 : 1 ≤ w) (h2 : w ≤ 66) (hN : N ≤ 90000) 
    (h' : MH) (tk : m__law_take [.ref b, .int 2] (h ++ [Ob.dct (D l)]) = .ok (.int 1) h') (F0 : Fr b h h') (B0 : Bx b (N + 1) h') (e4 : h'[h.length]? = some (.dct (D l))) :
    ∃ g q r2 l2, m__law_change [.ref b, .ref p, .int w, .ref r] h = .ok (.tup [.ref q, .ref r2]) g ∧ Fr b h g ∧ Bx b (N + 400) g ∧ Pr g q r2 w l2 := by
  have hb := B.lt
  have lh := F0.le
  have lt4 := get_lt e4
  have l66 := P.2.2.len h2
  have e9 := lst_new h' ((l.map (·.1)).map W.int)
  have m9 := mut_new h' ((l.map (·.1)).map W.int)
  have l9 := list_of_d e4
  generalize hks : l.map (·.1) = ks at e9 m9 l9
  have lks : ks.length ≤ 66 := by rw [← hks, List.length_map]; exact l66
  have G9 : Gr h' (h' ++ [Ob.lst (ks.map W.int)]) := .app _
  generalize hh9 : h' ++ [Ob.lst (ks.map W.int)] = h9 at e9 m9 l9 G9
  have lh9 : h9.length = h'.length + 1 := by rw [← hh9]; simp
  have m10 := mut_new h9 []
  have G10 : Gr h9 (h9 ++ [Ob.lst []]) := .app _
  have m9' := (mut_app (h' := [Ob.lst []]) (mut_lt m9)).trans m9
  generalize hh10 : h9 ++ [Ob.lst []] = h10 at m10 G10 m9'
  have lh10 : h10.length = h'.length + 2 := by rw [← hh10]; simp [lh9]
  have B10 := (B0.gr G9).gr G10
  obtain ⟨r1, x, g1, t1, ix, mx, F1, B1⟩ := pick (m := 2) [(if (ks.length : Int) + 1 < 5 then (ks.length : Int) + 1 else 5), (ks.length : Int) + 1] B10 (by omega) rfl (by decide) (by decide)
  have x9 : 1 ≤ x ∧ x ≤ (ks.length : Int) + 1 := by
    simp only [List.mem_cons, List.not_mem_nil, or_false] at mx
    rcases mx with rfl | rfl
    · split <;> omega
    · omega
  obtain ⟨r2, g2, t2, r20, r21, F2, _, B2⟩ := take (m := x) B1 (by omega) (by omega) (by omega)
  have FF : Fr b h' g2 := ((G9.trans G10).fr.trans F1).trans F2
  have n9 : h'.length ≠ b := by omega
  have n10 : h9.length ≠ b := by omega
  have m9g := F2.mut n9 (F1.mut n9 m9')
  have m10g := F2.mut n10 (F1.mut n10 m10)
  obtain ⟨g3, a, ts, f3, F3, B3, m3, left, pm⟩ := some_keys (b := b) (c9 := h'.length) (c10 := h9.length) (n := r2.toNat) (h0 := h') (g := g2) (ks := ks) (xs := [some (.ref p), some (.int w), some (.ref r), some (.ref h.length), none]) (by omega) FF B2 (by omega) lks (by omega) (Nat.le_refl _) (by omega) (by omega) m9g m10g rfl
  have ndk : ks.Nodup := by rw [← hks]; exact P.2.2.nd
  have nd : ts.Nodup := (List.nodup_append.mp (pm.nodup_iff.mpr ndk)).1
  have hk : ∀ k ∈ ts, k ∈ l.map (·.1) := fun k z => by
    rw [hks]
    exact pm.mem_iff.mp (List.mem_append_left _ z)
  have P3 := (P.fr B F0).fr B0 F3
  have n4 : h.length ≠ b := by omega
  have e43 : g3[h.length]? = some (.dct (D l)) := F3.get n4 e4
  have l3 := lst_of_mut m3
  have d7 := list_of_l l3
  have G4 : Gr g3 (g3 ++ [Ob.lst (ts.map W.int)]) := .app _
  have e7 := lst_new g3 (ts.map W.int)
  generalize hg4 : g3 ++ [Ob.lst (ts.map W.int)] = g4 at d7 G4 e7
  have lg4 : g4.length = g3.length + 1 := by rw [← hg4]; simp
  have l34 := G4.lst l3
  have P4 := P3.gr G4
  have B4 := B3.gr G4
  have G5 : Gr g4 (g4 ++ [Ob.lst [.ref h9.length, .tup (ts.map W.int)]]) := .app _
  have e5 := lst_new g4 [.ref h9.length, .tup (ts.map W.int)]
  obtain ⟨r5, g5, t5, r50, r51, F5, _, B5⟩ := take (m := 2) (B4.gr G5) (by omega) (by decide) (by decide)
  have lh3 := F3.le
  have F45 : Fr b g4 g5 := G5.fr.trans F5
  have lb4 : b < g4.length := B4.lt
  have e5' := F5.lst (by omega) e5
  have l35 := F45.lst n10 l34
  have pk : ∃ X, bIxX (.ref g4.length) (.int r5) g5 = .ok X g5 ∧ Ls g5 X ts := by
    have : r5 = 0 ∨ r5 = 1 := by omega
    rcases this with rfl | rfl
    · exact ⟨_, ixX_l e5' rfl, .inl ⟨_, rfl, l35⟩⟩
    · exact ⟨_, ixX_l e5' rfl, .inr rfl⟩
  obtain ⟨X, ix5, lsX⟩ := pk
  have P5 := P4.fr B4 F45
  obtain ⟨g6, q, wo, G6, Pq⟩ := without P5.1 lsX P.2.2 nd hk h1 h2
  have e46 := G6.get (F45.get n4 (G4.get e43))
  have l36 := G6.lst l35
  have l76 := G6.lst (F45.lst (by omega) e7)
  have ne : ∀ f, bNeX f (.ref h9.length) (.ref g3.length) g6 = .ok (.bl false) g6 := fun f => by
    rw [nex_l l36, ne_ints l36 l76]
    simp
  have n4c : h.length ≠ h9.length := by omega
  obtain ⟨a11, f6⟩ := off_keys (c4 := h.length) (c10 := h9.length) (l := l) (ts := ts) (g := g6) (xs := [none, a, some (.ref g3.length), some (.ref q), some (.ref h'.length), some (.ref h9.length)]) e46 l36 n4c nd hk rfl (some (.ref b)) (some (.ref p)) (some (.int w)) (some (.ref r))
  have m36 : mutAt g6 h9.length = some (ts.map W.int) := G6.get (F45.get n10 (G4.get (mutAt_eq m3))) |> fun e => by unfold mutAt; rw [e]
  have m37 : mutAt (g6.set h.length (.dct (D (dropL l ts)))) h9.length = some (ts.map W.int) := by rw [mut_set_ne n4c]; exact m36
  have tz : ts.length < 16777216 := by
    have := pm.length_eq
    rw [List.length_append] at this
    omega
  have ap : bApp [.ref h9.length, .int 0] (g6.set h.length (.dct (D (dropL l ts)))) = .ok .non ((g6.set h.length (.dct (D (dropL l ts)))).set h9.length (.lst (ts.map W.int ++ [.int 0]))) := by
    simp [bApp, m37, line_eq, tz]
  have b10 := bty_l (lst_of_mut m37)
  have lt3 := lst_lt l3
  have l45 := F45.le
  refine ⟨(g6.set h.length (.dct (D (dropL l ts)))).set h9.length (.lst (ts.map W.int ++ [.int 0])), q, h.length, dropL l ts, ?_, ?_, ?_, ?_, ?_, ?_⟩
  · unfold pBody at f3
    unfold dBody at f6
    have rg : ∀ g, rng1 [.int r2] g = .ok (itR 0 r2.toNat) g := fun g => rng1_i (by omega) (by omega)
    have d4 := dict_of P.2.1
    have t1' : m__law_take [.ref b, .int 2] (h9 ++ [Ob.lst [], Ob.lst [.int (if (ks.length : Int) + 1 < 5 then (ks.length : Int) + 1 else 5), .int ((ks.length : Int) + 1)]]) = .ok (.int r1) g1 := by
      rw [← t1, ← hh10]
      simp
    have t5' : m__law_take [.ref b, .int 2] (g4 ++ [Ob.lst [.ref h9.length, .tup (ts.map W.int)]]) = .ok (.int r5) g5 := t5
    have tu : bTupO [.ref h9.length] g4 = .ok (.tup (ts.map W.int)) g4 := by simp [bTupO, l34]
    have ln9 : bLen [.ref h'.length] (h9 ++ [Ob.lst []]) = .ok (.int ks.length) (h9 ++ [Ob.lst []]) := by
      rw [hh10, len_l (lst_of_mut m9')]
      simp
    rw [show h10.length = h9.length + 1 by omega] at ix
    obtain ⟨d, i1, i2⟩ := P4.1
    have fc : fldM [("pattern_width", W.int w), ("value_at", W.ref d)] "without" = none := by
      simp [fldM]
      decide
    simp at f3 f6
    refine run_f rfl rfl ?_
    simp [d4, tk, hh9, line_eq, t1', ix, t2, rg, f3, d7, ins_at i1, metG, fc, wo, ne, ap, b10, t5', tu, ix5, ln9, l9, f6, iter_l l36]
  · exact ((((((F0.trans F3).trans G4.fr).trans F45).trans G6.fr).set_new (Nat.le_refl _)).set_new (by omega))
  · exact (((B5.gr G6).set n4).set n10).mono (by omega)
  · exact ((Pq.set (by omega)).set (by omega)).pt
  · rw [List.getElem?_set_ne (Ne.symm n4c)]
    exact List.getElem?_set_self (get_lt e46)
  · exact P.2.2.dropL ts
theorem change {b N p r : Nat} {w : Int} {l : DI} {h : MH} (B : Bx b N h) (P : Pr h p r w l) (h1 : 1 ≤ w) (h2 : w ≤ 66) (hN : N ≤ 90000) :
    ∃ g q r2 l2, m__law_change [.ref b, .ref p, .int w, .ref r] h = .ok (.tup [.ref q, .ref r2]) g ∧ Fr b h g ∧ Bx b (N + 400) g ∧ Pr g q r2 w l2 := by
  have G : Gr h (h ++ [Ob.dct (D l)]) := .app _
  obtain ⟨x, h', t, x0, x1, F, _, B'⟩ := take (m := 2) (B.gr G) (by omega) (by decide) (by decide)
  have hb := B.lt
  have e4 := F.get (i := h.length) (by omega) (at_end h (Ob.dct (D l)))
  have : x = 0 ∨ x = 1 := by omega
  rcases this with rfl | rfl
  · exact change_a B P h1 h2 hN h' t (G.fr.trans F) B' e4
  · exact change_b B P h1 h2 hN h' t (G.fr.trans F) B' e4
end K07
namespace K07
open PySem L2 PM
def cB : SM := (sIf (tOrM (tTru (e2 (bNeX (bNeI "Pattern" CS NF_Pattern (fun ws => m_Pattern___eq__ ws))) (eVar 7) (eCal 2 0 (mkM "Pattern" (fun ws _ => m_Pattern___init__ ws)) (aCons (eVar 3) (aCons (eVar 8) aNil)) aNil))) (tOrM (tTru (e2 (bNeX (bNeI "Pattern" CS NF_Pattern (fun ws => m_Pattern___eq__ ws))) (eMet "Pattern" "cells" 1 0 (fun ws _ => m_Pattern_cells ws) (eVar 7) aNil aNil) (eVar 8))) (tTru (e2 (bNeX (bNeI "Pattern" CS NF_Pattern (fun ws => m_Pattern___eq__ ws))) (eMet "Pattern" "offsets" 1 0 (fun ws _ => m_Pattern_offsets ws) (eVar 7) aNil aNil) (eCall bSrt (aCons (eVar 8) aNil)))))) (sRet (eC (.bl false))) sNext)
theorem chk_step {h : MH} {q r : Nat} {w : Int} {l : DI} (P : Pr h q r w l) (h1 : 1 ≤ w) (h2 : w ≤ 66) (x0 x1 x2 x4 x5 x6 x9 x10 : Option W) :
    ∃ h', cB [x0, x1, x2, some (.int w), x4, x5, x6, some (.ref q), some (.ref r), x9, x10] h = .nx [x0, x1, x2, some (.int w), x4, x5, x6, some (.ref q), some (.ref r), x9, x10] h' ∧ Gr h h' := by
  obtain ⟨g1, m1, G1, P1⟩ := mkPat P.2.1 P.2.2 h1 h2
  obtain ⟨g2, m2, G2⟩ := ne_pat (P.1.gr G1) P1.pt P.2.2 P.2.2 fun _ => rfl
  have G12 := G1.trans G2
  have P2 := P.gr G12
  have m3 := cells P2.1
  have G3 : Gr g2 (g2 ++ [Ob.dct (D (S l))]) := .app _
  have e3 : (g2 ++ [Ob.dct (D (S l))])[g2.length]? = some (.dct (D (S l))) := at_end _ _
  generalize hg3 : g2 ++ [Ob.dct (D (S l))] = g3 at m3 G3 e3
  have P3 := P2.gr G3
  have n3 : ∀ f, bNeX f (.ref g2.length) (.ref r) g3 = .ok (.bl false) g3 := fun f => by
    rw [nex_d (dct_at e3)]
    exact eqD_same (dct_at e3) (dct_at P3.2.1) (S_nodup P.2.2.nd) P.2.2.nd fun k => S_val P.2.2.nd k
  have m4 := offsets P3.1
  have G4 : Gr g3 (g3 ++ [Ob.lst ((srtI (l.map (·.1))).map W.int)]) := .app _
  have e4 := lst_new g3 ((srtI (l.map (·.1))).map W.int)
  generalize hg4 : g3 ++ [Ob.lst ((srtI (l.map (·.1))).map W.int)] = g4 at m4 G4 e4
  have P4 := P3.gr G4
  have m5 := srt_d P4.2.1
  have G5 : Gr g4 (g4 ++ [Ob.lst ((srtI (l.map (·.1))).map W.int)]) := .app _
  have e5 := lst_new g4 ((srtI (l.map (·.1))).map W.int)
  generalize hg5 : g4 ++ [Ob.lst ((srtI (l.map (·.1))).map W.int)] = g5 at m5 G5 e5
  have n5 : ∀ f, bNeX f (.ref g3.length) (.ref g4.length) g5 = .ok (.bl false) g5 := fun f => by
    rw [nex_l (G5.lst e4), ne_ints (G5.lst e4) e5]
    simp
  refine ⟨g5, ?_, ((G12.trans G3).trans G4).trans G5⟩
  unfold mkP at m1
  obtain ⟨d, i2, _⟩ := P2.1
  obtain ⟨d3, i3, _⟩ := P3.1
  have fc : fldM [("pattern_width", W.int w), ("value_at", W.ref d)] "cells" = none := by
    simp [fldM]
    decide
  have fo : fldM [("pattern_width", W.int w), ("value_at", W.ref d3)] "offsets" = none := by
    simp [fldM]
    decide
  simp [cB, m1, m2, metG, ins_at i2, fc, m3, n3, ins_at i3, fo, m4, m5, n5]
/-- all that is held -/
def HL (h : MH) (w : Int) (xs : List W) : Prop := ∀ x ∈ xs, ∃ q r l, x = .tup [.ref q, .ref r] ∧ Pr h q r w l
theorem HL.gr {h h' : MH} {w : Int} {xs : List W} (H : HL h w xs) (g : Gr h h') : HL h' w xs := fun x hx => by
  obtain ⟨q, r, l, e, P⟩ := H x hx
  exact ⟨q, r, l, e, P.gr g⟩
theorem HL.fr {b N : Nat} {h h' : MH} {w : Int} {xs : List W} (H : HL h w xs) (B : Bx b N h) (F : Fr b h h') : HL h' w xs := fun x hx => by
  obtain ⟨q, r, l, e, P⟩ := H x hx
  exact ⟨q, r, l, e, P.fr B F⟩
theorem Pr.setL {h : MH} {q r c : Nat} {w : Int} {l : DI} {xs : List W} {o : Ob} (P : Pr h q r w l) (m : mutAt h c = some xs) : Pr (h.set c o) q r w l := by
  obtain ⟨⟨d, e1, e2⟩, e3, e4⟩ := P
  have ne : ∀ i o', h[i]? = some o' → (∀ ys, o' ≠ .lst ys) → c ≠ i := fun i o' e n z => by
    subst z
    rw [mutAt_eq m] at e
    cases e
    exact n _ rfl
  exact ⟨⟨d, by rw [List.getElem?_set_ne (ne _ _ e1 fun _ z => nomatch z)]; exact e1, by rw [List.getElem?_set_ne (ne _ _ e2 fun _ z => nomatch z)]; exact e2⟩, by rw [List.getElem?_set_ne (ne _ _ e3 fun _ z => nomatch z)]; exact e3, e4⟩
theorem HL.setL {h : MH} {c : Nat} {w : Int} {ys xs : List W} {o : Ob} (H : HL h w ys) (m : mutAt h c = some xs) : HL (h.set c o) w ys := fun x hx => by
  obtain ⟨q, r, l, e, P⟩ := H x hx
  exact ⟨q, r, l, e, P.setL m⟩
/-- all held patterns are looked at -/
theorem chk {h : MH} {c5 : Nat} {w : Int} {xs : List W} (H : HL h w xs) (m : lstAt h c5 = some xs) (h1 : 1 ≤ w) (h2 : w ≤ 66) (x0 x1 x2 x4 x5 x6 x7 x8 x9 x10 : Option W) :
    ∃ h' y7 y8, forGo (itL c5 xs) (gTp 2 (gCons (gN 7) (gCons (gN 8) gNil))) cB xs.length 0 [x0, x1, x2, some (.int w), x4, x5, x6, x7, x8, x9, x10] h = .nx [x0, x1, x2, some (.int w), x4, x5, x6, y7, y8, x9, x10] h' ∧ Gr h h' := by
  obtain ⟨σ', h', e, y7, y8, es, G⟩ := for_inv (mi := itL c5 xs) (g := gTp 2 (gCons (gN 7) (gCons (gN 8) gNil))) (body := cB)
    (fun i σ g => ∃ y7 y8, σ = [x0, x1, x2, some (.int w), x4, x5, x6, y7, y8, x9, x10] ∧ Gr h g) xs.length
    (fun σ g ⟨_, _, _, G⟩ => by rw [nx_lst (G.lst m)]; simp) (fun i σ g hi ⟨y7, y8, es, G⟩ => by
      subst es
      obtain ⟨q, r, l, e, P⟩ := H xs[i] (List.getElem_mem hi)
      obtain ⟨h', s, G'⟩ := chk_step (P.gr G) h1 h2 x0 x1 x2 x4 x5 x6 x9 x10
      refine ⟨.tup [.ref q, .ref r], _, by rw [nx_lst (G.lst m)]; simp [hi, e], ?_, _, h', s, _, _, rfl, G.trans G'⟩
      simp) xs.length 0 _ h (by omega) ⟨x7, x8, rfl, .refl⟩
  subst es
  exact ⟨h', y7, y8, e, G⟩
/-- one turn: a change, a look at all -/
def tB : SM := (sSeq (sExpr (eBM "list" bApp (eVar 5) (aCons (eCall m__law_change (aCons (eVar 2) (aCons (e2 bIxX (e2 bIxX (eVar 5) (eNeg (eC (.int 1)))) (eC (.int 0))) (aCons (eVar 3) (aCons (e2 bIxX (e2 bIxX (eVar 5) (eNeg (eC (.int 1)))) (eC (.int 1))) aNil))))) aNil)))
    (sSeq (sIf (tTru (e2 bIs (e2 bIxX (e2 bIxX (eVar 5) (eNeg (eC (.int 1)))) (eC (.int 0))) (eC .non))) (sRet (eC (.bl false))) sNext)
    (sFor (iVal (eVar 5)) (gTp 2 (gCons (gN 7) (gCons (gN 8) gNil))) cB)))
theorem atI_last {α : Type} (xs : List α) (x : α) : atI (xs ++ [x]) (-1) = some x := by
  have e : ixN (xs ++ [x]).length (-1) = some xs.length := by
    unfold ixN
    rw [if_neg (by decide), if_pos (by simp; omega)]
    simp
    omega
  unfold atI
  rw [e]
  simp
theorem turn {b N c5 : Nat} {w : Int} {g h0 : MH} {ys : List W} {x : W} (hb : b < h0.length) (F : Fr b h0 g) (B : Bx b N g) (hN : N ≤ 80000) (hc : h0.length ≤ c5) (m : mutAt g c5 = some (ys ++ [x])) (lz : ys.length < 100) (H : HL g w (ys ++ [x])) (h1 : 1 ≤ w) (h2 : w ≤ 66) (x0 x1 x4 x6 x7 x8 x9 x10 : Option W) :
    ∃ g' y y7 y8, tB [x0, x1, some (.ref b), some (.int w), x4, some (.ref c5), x6, x7, x8, x9, x10] g = .nx [x0, x1, some (.ref b), some (.int w), x4, some (.ref c5), x6, y7, y8, x9, x10] g' ∧ Fr b h0 g' ∧ Bx b (N + 400) g' ∧ mutAt g' c5 = some (ys ++ [x] ++ [y]) ∧ HL g' w (ys ++ [x] ++ [y]) := by
  obtain ⟨q, r, l, e, P⟩ := H x (by simp)
  subst e
  obtain ⟨g1, q1, r1, l1, ch, F1, B1, P1⟩ := change B P h1 h2 (by omega)
  have cb : c5 ≠ b := by omega
  have m1 := F1.mut cb m
  have H1 := H.fr B F1
  have m2 : mutAt (g1.set c5 (.lst (ys ++ [W.tup [.ref q, .ref r]] ++ [.tup [.ref q1, .ref r1]]))) c5 = some _ := mut_set (mut_lt m1)
  have H2 : HL (g1.set c5 (.lst (ys ++ [W.tup [.ref q, .ref r]] ++ [.tup [.ref q1, .ref r1]]))) w (ys ++ [W.tup [.ref q, .ref r]] ++ [.tup [.ref q1, .ref r1]]) := fun x hx => by
    rcases List.mem_append.mp hx with hx | hx
    · exact (H1.setL m1) x hx
    · have : x = .tup [.ref q1, .ref r1] := by simpa using hx
      exact ⟨q1, r1, l1, this, P1.setL m1⟩
  have F2 := (F.trans F1).set_new (o := .lst (ys ++ [W.tup [.ref q, .ref r]] ++ [.tup [.ref q1, .ref r1]])) hc
  have B2 := B1.set (o := .lst (ys ++ [W.tup [.ref q, .ref r]] ++ [.tup [.ref q1, .ref r1]])) cb
  have ap : bApp [.ref c5, .tup [.ref q1, .ref r1]] g1 = .ok .non (g1.set c5 (.lst (ys ++ [W.tup [.ref q, .ref r]] ++ [.tup [.ref q1, .ref r1]]))) := by
    have : ys.length + 1 < 16777216 := by omega
    simp [bApp, m1, line_eq, this]
  generalize hg2 : g1.set c5 (.lst (ys ++ [W.tup [.ref q, .ref r]] ++ [.tup [.ref q1, .ref r1]])) = g2 at *
  obtain ⟨g3, y7, y8, ck, G3⟩ := chk H2 (lst_of_mut m2) h1 h2 x0 x1 (some (.ref b)) x4 (some (.ref c5)) x6 x7 x8 x9 x10
  have m3 : mutAt g3 c5 = some (ys ++ [W.tup [.ref q, .ref r]] ++ [.tup [.ref q1, .ref r1]]) := by
    have := G3.get (mutAt_eq m2)
    unfold mutAt
    rw [this]
  refine ⟨g3, .tup [.ref q1, .ref r1], y7, y8, ?_, F2.trans G3.fr, B2.gr G3, m3, H2.gr G3⟩
  have i1 : bIxX (.ref c5) (.int (-1)) g = .ok (.tup [.ref q, .ref r]) g := ixX_l (lst_of_mut m) (atI_last _ _)
  have i2 : bIxX (.ref c5) (.int (-1)) g2 = .ok (.tup [.ref q1, .ref r1]) g2 := ixX_l (lst_of_mut m2) (atI_last _ _)
  have j0 : ∀ (a c : W) g, bIxX (.tup [a, c]) (.int 0) g = .ok a g := fun a c g => ixX_t rfl
  have j1 : ∀ (a c : W) g, bIxX (.tup [a, c]) (.int 1) g = .ok c g := fun a c g => ixX_t rfl
  have bt := bty_l (lst_of_mut m)
  have nn : ∀ (i : Nat) g, bIs (.ref i) .non g = .ok (.bl false) g := fun i g => rfl
  simp at ck
  simp [tB, bt, i1, j0, j1, ch, ap, i2, nn, iter_l (lst_of_mut m2), ck]
end K07
namespace K07
open PySem L2 PM
theorem runs_ok {w n : Int} {l : DI} (h2 : w ≤ 66) (n1 : 1 ≤ n) : (runsOf w l n).length ≤ 66 ∧ ∀ k ∈ runsOf w l n, 0 ≤ k ∧ k < 66 := by
  unfold runsOf
  constructor
  · rw [List.length_map]
    have := List.length_filter_le (freeAt l n) (List.range (w - n + 1).toNat)
    rw [List.length_range] at this
    omega
  · intro k hk
    obtain ⟨s, hs, rfl⟩ := List.mem_map.mp hk
    have := List.mem_range.mp (List.mem_filter.mp hs).1
    omega
def rB : SM := (sSeq (sSet 10 (eMet "Pattern" "free_runs" 2 0 (fun ws _ => m_Pattern_free_runs ws) (eVar 7) (aCons (eVar 9) aNil) aNil))
    (sSeq (sIf (tTru (e2 bNe (eCall bRepr (aCons (eVar 10) aNil)) (eCall bRepr (aCons (eCall m__law_runs (aCons (eVar 3) (aCons (eVar 8) (aCons (eVar 9) aNil)))) aNil)))) (sRet (eC (.bl false))) sNext)
    (sExpr (eBM "list" bApp (eVar 10) (aCons (eC (.int 0)) aNil)))))
theorem one_run {h : MH} {q r : Nat} {w n : Int} {l : DI} (P : Pr h q r w l) (h1 : 1 ≤ w) (h2 : w ≤ 66) (n1 : 1 ≤ n) (n2 : n ≤ 66) (x0 x1 x2 x4 x5 x6 x10 : Option W) :
    ∃ h' y, rB [x0, x1, x2, some (.int w), x4, x5, x6, some (.ref q), some (.ref r), some (.int n), x10] h = .nx [x0, x1, x2, some (.int w), x4, x5, x6, some (.ref q), some (.ref r), some (.int n), y] h' ∧ Gr h h' := by
  obtain ⟨g1, f1, G1, m1⟩ := free_runs P.1 P.2.2 h1 h2 n1 n2
  have P1 := P.gr G1
  obtain ⟨g2, f2, G2, m2⟩ := law_runs P1.2.1 h1 h2 n1 n2
  obtain ⟨z1, z2⟩ := runs_ok (w := w) (n := n) (l := l) h2 n1
  have hs : ∀ k ∈ runsOf w l n, k.natAbs < 2 ^ 64 ∧ (toString k : Str).length ≤ 2 := fun k hk => by
    have := z2 k hk
    exact ⟨by omega, shown_small this.1 (by omega)⟩
  have p1 := repr_ints 2 (lst_of_mut m1) hs (by omega)
  have p2 := repr_ints 2 (lst_of_mut m2) hs (by omega)
  have m3 : mutAt g2 h.length = some ((runsOf w l n).map W.int) := by
    have := G2.get (mutAt_eq m1)
    unfold mutAt
    rw [this]
  have tz : (runsOf w l n).length < 16777216 := by omega
  have ap : bApp [.ref h.length, .int 0] g2 = .ok .non (g2.set h.length (.lst ((runsOf w l n).map W.int ++ [.int 0]))) := by
    simp [bApp, m3, line_eq, tz]
  have bt := bty_l (lst_of_mut m3)
  obtain ⟨d, i1, _⟩ := P.1
  have fc : fldM [("pattern_width", W.int w), ("value_at", W.ref d)] "free_runs" = none := by
    simp [fldM]
    decide
  refine ⟨g2.set h.length (.lst ((runsOf w l n).map W.int ++ [.int 0])), some (.ref h.length), ?_, (G1.trans G2).set (Nat.le_refl _) _⟩
  simp [rB, ins_at i1, metG, fc, f1, p1, f2, p2, bt, ap]
def sB : SM := (sFor (iRange rng1 (aCons (eC (.int 2)) aNil)) (gN 6) rB)
theorem size_step {h : MH} {q r : Nat} {w n : Int} {l : DI} (P : Pr h q r w l) (h1 : 1 ≤ w) (h2 : w ≤ 66) (n1 : 1 ≤ n) (n2 : n ≤ 66) (x0 x1 x2 x4 x5 x6 x10 : Option W) :
    ∃ h' y6 y, sB [x0, x1, x2, some (.int w), x4, x5, x6, some (.ref q), some (.ref r), some (.int n), x10] h = .nx [x0, x1, x2, some (.int w), x4, x5, y6, some (.ref q), some (.ref r), some (.int n), y] h' ∧ Gr h h' := by
  obtain ⟨σ', h', e, y6, y, es, G⟩ := for_inv (mi := itR 0 2) (g := gN 6) (body := rB)
    (fun i σ g => ∃ y6 y, σ = [x0, x1, x2, some (.int w), x4, x5, y6, some (.ref q), some (.ref r), some (.int n), y] ∧ Gr h g) 2
    (fun σ g _ => by rw [nx_rng]; simp) (fun i σ g hi ⟨y6, y, es, G⟩ => by
      subst es
      obtain ⟨h', y', s, G'⟩ := one_run (P.gr G) h1 h2 n1 n2 x0 x1 x2 x4 x5 (some (.int i)) y
      exact ⟨.int i, _, by rw [nx_rng]; simp [hi], rfl, _, h', s, _, _, rfl, G.trans G'⟩) 2 0 _ h (by omega) ⟨x6, x10, rfl, .refl⟩
  subst es
  have rg : ∀ g, rng1 [.int 2] g = .ok (itR 0 2) g := fun g => rng1_i (by omega) (by omega)
  refine ⟨h', y6, y, ?_, G⟩
  simp [sB, rg, e]
def szs (w : Int) : List W := rgW 1 ((if (12 : Int) < w then 12 else w) + 1) ++ [.int w, .int 66]
theorem szs_ok {w : Int} (h1 : 1 ≤ w) (h2 : w ≤ 66) {x : W} (hx : x ∈ szs w) : ∃ n : Int, x = .int n ∧ 1 ≤ n ∧ n ≤ 66 := by
  unfold szs rgW at hx
  rcases List.mem_append.mp hx with hx | hx
  · obtain ⟨k, hk, rfl⟩ := List.mem_map.mp hx
    have := List.mem_range.mp hk
    refine ⟨_, rfl, by omega, ?_⟩
    split at this <;> omega
  · simp at hx
    rcases hx with rfl | rfl
    · exact ⟨_, rfl, h1, h2⟩
    · exact ⟨_, rfl, by decide, by decide⟩
theorem sizes {h : MH} {q r j : Nat} {w : Int} {l : DI} (P : Pr h q r w l) (h1 : 1 ≤ w) (h2 : w ≤ 66) (m : lstAt h j = some (szs w)) (x0 x1 x2 x4 x5 x6 x9 x10 : Option W) :
    ∃ h' y6 y9 y10, forGo (itL j (szs w)) (gN 9) sB (szs w).length 0 [x0, x1, x2, some (.int w), x4, x5, x6, some (.ref q), some (.ref r), x9, x10] h = .nx [x0, x1, x2, some (.int w), x4, x5, y6, some (.ref q), some (.ref r), y9, y10] h' ∧ Gr h h' := by
  obtain ⟨σ', h', e, y6, y9, y10, es, G⟩ := for_inv (mi := itL j (szs w)) (g := gN 9) (body := sB)
    (fun i σ g => ∃ y6 y9 y10, σ = [x0, x1, x2, some (.int w), x4, x5, y6, some (.ref q), some (.ref r), y9, y10] ∧ Gr h g) (szs w).length
    (fun σ g ⟨_, _, _, _, G⟩ => by rw [nx_lst (G.lst m)]; simp) (fun i σ g hi ⟨y6, y9, y10, es, G⟩ => by
      subst es
      obtain ⟨n, en, n1, n2⟩ := szs_ok h1 h2 (List.getElem_mem hi)
      obtain ⟨h', y6', y', s, G'⟩ := size_step (P.gr G) h1 h2 n1 n2 x0 x1 x2 x4 x5 y6 y10
      exact ⟨.int n, _, by rw [nx_lst (G.lst m)]; simp [hi, en], rfl, _, h', s, _, _, _, rfl, G.trans G'⟩) (szs w).length 0 _ h (by omega) ⟨x6, x9, x10, rfl, .refl⟩
  subst es
  exact ⟨h', y6, y9, y10, e, G⟩
end K07
namespace K07
open PySem L2 PM
def oB : SM := (sSeq (sSet 2 (eCall m__law_bag (aCons (eCall m__law_cell (aCons (eVar 0) (aCons (eVar 1) aNil))) aNil)))
    (sSeq (sAsg (gTp 2 (gCons (gN 3) (gCons (gN 4) gNil))) (eCall m__law_content (aCons (eVar 2) aNil)))
    (sSeq (sSet 5 (eLst (aCons (eTup (aCons (eCal 2 0 (mkM "Pattern" (fun ws _ => m_Pattern___init__ ws)) (aCons (eVar 3) (aCons (eVar 4) aNil)) aNil) (aCons (eVar 4) aNil))) aNil)))
    (sSeq (sFor (iRange rng1 (aCons (eCall m__law_take (aCons (eVar 2) (aCons (eC (.int 13)) aNil))) aNil)) (gN 6) tB)
    (sSeq (sAsg (gTp 2 (gCons (gN 7) (gCons (gN 8) gNil))) (e2 bIxX (eVar 5) (eNeg (eC (.int 1)))))
    (sFor (iVal (e2 bAdd (eLRg2 (eC (.int 1)) (e2 bAdd (eCall bMin2 (aCons (eVar 3) (aCons (eC (.int 12)) aNil))) (eC (.int 1)))) (eLst (aCons (eVar 3) (aCons (eC (.int 66)) aNil))))) (gN 9) sB))))))
theorem turns {b N c5 n : Nat} {w : Int} {g h0 : MH} {x : W} (hb : b < h0.length) (F : Fr b h0 g) (B : Bx b N g) (hN : N ≤ 1000) (hn : n ≤ 13) (hc : h0.length ≤ c5) (m : mutAt g c5 = some [x]) (H : HL g w [x]) (h1 : 1 ≤ w) (h2 : w ≤ 66) (x0 x1 x4 x6 x7 x8 x9 x10 : Option W) :
    ∃ g' ys y y6 y7 y8, forGo (itR 0 n) (gN 6) tB n 0 [x0, x1, some (.ref b), some (.int w), x4, some (.ref c5), x6, x7, x8, x9, x10] g = .nx [x0, x1, some (.ref b), some (.int w), x4, some (.ref c5), y6, y7, y8, x9, x10] g' ∧ Fr b h0 g' ∧ mutAt g' c5 = some (ys ++ [y]) ∧ HL g' w (ys ++ [y]) := by
  obtain ⟨σ', g', e, ys, y, y6, y7, y8, es, F, B, m, H, l⟩ := for_inv (mi := itR 0 n) (g := gN 6) (body := tB)
    (fun i σ g => ∃ ys y y6 y7 y8, σ = [x0, x1, some (.ref b), some (.int w), x4, some (.ref c5), y6, y7, y8, x9, x10] ∧ Fr b h0 g ∧ Bx b (N + 400 * i) g ∧ mutAt g c5 = some (ys ++ [y]) ∧ HL g w (ys ++ [y]) ∧ ys.length = i) n
    (fun σ g _ => by rw [nx_rng]; simp) (fun i σ g hi ⟨ys, y, y6, y7, y8, es, F, B, m, H, l⟩ => by
      subst es
      obtain ⟨g', z, z7, z8, s, F', B', m', H'⟩ := turn hb F B (by omega) hc m (by omega) H h1 h2 x0 x1 x4 (some (.int (i : Int))) y7 y8 x9 x10
      exact ⟨.int i, _, by rw [nx_rng]; simp [hi], rfl, _, g', s, ys ++ [y], z, _, z7, z8, rfl, F', B'.mono (by omega), m', H', by simp [l]⟩) n 0 _ g (by omega) ⟨[], x, x6, x7, x8, rfl, F, B.mono (by omega), m, H, rfl⟩
  subst es
  exact ⟨g', ys, y, y6, y7, y8, e, F, m, H⟩
theorem one {ns : List Int} {h : MH} {i : Nat} (hi : i < 6) (e0 : lstAt h 0 = some (ns.map W.int)) (x2 x3 x4 x5 x6 x7 x8 x9 x10 : Option W) :
    ∃ h' y2 y3 y4 y5 y6 y7 y8 y9 y10, oB [some (.ref 0), some (.int i), x2, x3, x4, x5, x6, x7, x8, x9, x10] h = .nx [some (.ref 0), some (.int i), y2, y3, y4, y5, y6, y7, y8, y9, y10] h' ∧ lstAt h' 0 = some (ns.map W.int) := by
  obtain ⟨c, hc⟩ := cell (k := (i : Int)) e0 (by omega) (by omega)
  obtain ⟨g1, b1, G1, B1⟩ := bag c h
  have l0 := lst_lt e0
  have hb := B1.lt
  obtain ⟨g2, w, r, l, c2, F2, B2, ed, cl, w1, w2⟩ := content B1 (by omega)
  obtain ⟨g3, m3, G3, P3⟩ := mkPat ed cl w1 w2
  have Pr3 : Pr g3 g2.length r w l := ⟨P3.pt, G3.get ed, cl⟩
  have G4 : Gr g3 (g3 ++ [Ob.lst [.tup [.ref g2.length, .ref r]]]) := .app _
  have m4 := mut_new g3 [.tup [.ref g2.length, .ref r]]
  generalize hg4 : g3 ++ [Ob.lst [.tup [.ref g2.length, .ref r]]] = g4 at G4 m4
  have Pr4 := Pr3.gr G4
  have B4 := (B2.gr G3).gr G4
  obtain ⟨n, g5, t5, n0, n1, F5, _, B5⟩ := take (m := 13) B4 (by omega) (by decide) (by decide)
  have F15 : Fr h.length g1 g5 := (F2.trans (G3.trans G4).fr).trans F5
  have l2 := F2.le
  have l3 := G3.le
  have H4 : HL g5 w [.tup [.ref g2.length, .ref r]] := fun x hx => by
    have : x = .tup [.ref g2.length, .ref r] := by simpa using hx
    exact ⟨_, _, l, this, Pr4.fr B4 F5⟩
  obtain ⟨g6, ys, y, y6, y7, y8, tt, F6, m6, H6⟩ := turns (c5 := g3.length) (n := n.toNat) hb F15 B5 (by omega) (by omega) (by omega) (F5.mut (by omega) m4) H4 w1 w2 (some (.ref 0)) (some (.int i)) (some (.ref r)) x6 x7 x8 x9 x10
  obtain ⟨q, r', l', ey, P6⟩ := H6 y (by simp)
  subst ey
  have i6 : bIxX (.ref g3.length) (.int (-1)) g6 = .ok (.tup [.ref q, .ref r']) g6 := ixX_l (lst_of_mut m6) (atI_last _ _)
  have G7 : Gr g6 (g6 ++ [Ob.lst (rgW 1 ((if (12 : Int) < w then 12 else w) + 1))]) := .app _
  have m7 := mut_new g6 (rgW 1 ((if (12 : Int) < w then 12 else w) + 1))
  have lz : (rgW 1 ((if (12 : Int) < w then 12 else w) + 1)).length ≤ 12 := by
    unfold rgW
    simp
    split <;> omega
  have ok : rgOk 1 ((if (12 : Int) < w then 12 else w) + 1) = true := by
    unfold rgOk
    refine decide_eq_true ?_
    split <;> omega
  generalize hrw : rgW 1 ((if (12 : Int) < w then 12 else w) + 1) = rw at *
  generalize hg7 : g6 ++ [Ob.lst rw] = g7 at G7 m7
  have G8 : Gr g7 (g7 ++ [Ob.lst [.int w, .int 66]]) := .app _
  have m8 := mut_new g7 [.int w, .int 66]
  have m78 : mutAt (g7 ++ [Ob.lst [.int w, .int 66]]) g6.length = some rw := (mut_app (mut_lt m7)).trans m7
  generalize hg8 : g7 ++ [Ob.lst [.int w, .int 66]] = g8 at G8 m8 m78
  have ad : bAdd (.ref g6.length) (.ref g7.length) g8 = .ok (.ref g8.length) (g8 ++ [Ob.lst (szs w)]) := by
    have z : rw.length + 2 ≤ 16777216 := by omega
    simp [bAdd, m78, m8, line_eq, z, szs, hrw]
  have G9 : Gr g8 (g8 ++ [Ob.lst (szs w)]) := .app _
  have m9 := lst_new g8 (szs w)
  generalize hg9 : g8 ++ [Ob.lst (szs w)] = g9 at ad G9 m9
  have G69 := (G7.trans G8).trans G9
  obtain ⟨g10, z6, z9, z10, ss, G10⟩ := sizes (P6.gr G69) w1 w2 m9 (some (.ref 0)) (some (.int i)) (some (.ref h.length)) (some (.ref r)) (some (.ref g3.length)) y6 x9 x10
  have e1 := G1.lst e0
  have e6 := F6.lst (by omega) e1
  refine ⟨g10, some (.ref h.length), some (.int w), some (.ref r), some (.ref g3.length), z6, some (.ref q), some (.ref r'), z9, z10, ?_, (G69.trans G10).lst e6⟩
  unfold mkP at m3
  have rg : ∀ g, rng1 [.int n] g = .ok (itR 0 n.toNat) g := fun g => rng1_i (by omega) (by omega)
  have l7 : g7.length = g6.length + 1 := by rw [← hg7]; simp
  simp [oB, hc, b1, c2, m3, line_eq, hg4, t5, rg, tt, i6, ok, hrw, hg7, hg8, ad, iter_l m9, ss]
theorem holds (ns : List Int) (hn : ns.length ≤ 63) (hb : ∀ z ∈ ns, Builtin.Int.intBits z ≤ 1048576) : ∃ g, m_law [.ref 0] (script0 ns) = .ok (.bl true) g := by
  have e0 : lstAt (script0 ns) 0 = some (ns.map W.int) := rfl
  have ln := len_l e0
  rw [List.length_map] at ln
  generalize hk : (if (if (ns.length : Int) < 6 then (ns.length : Int) else 6) > 2 then (if (ns.length : Int) < 6 then (ns.length : Int) else 6) else 2) = k
  have k6 : 2 ≤ k ∧ k ≤ 6 := by
    rw [← hk]
    repeat' split
    all_goals omega
  obtain ⟨σ', g', e, y1, y2, y3, y4, y5, y6, y7, y8, y9, y10, es, _⟩ := for_inv (mi := itR 0 k.toNat) (g := gN 1) (body := oB)
    (fun i σ g => ∃ y1 y2 y3 y4 y5 y6 y7 y8 y9 y10, σ = [some (.ref 0), y1, y2, y3, y4, y5, y6, y7, y8, y9, y10] ∧ lstAt g 0 = some (ns.map W.int)) k.toNat
    (fun σ g _ => by rw [nx_rng]; simp) (fun i σ g hi ⟨y1, y2, y3, y4, y5, y6, y7, y8, y9, y10, es, e0⟩ => by
      subst es
      obtain ⟨h', z2, z3, z4, z5, z6, z7, z8, z9, z10, s, e0'⟩ := one (i := i) (by omega) e0 y2 y3 y4 y5 y6 y7 y8 y9 y10
      exact ⟨.int i, _, by rw [nx_rng]; simp [hi], rfl, _, h', s, _, _, _, _, _, _, _, _, _, _, rfl, e0'⟩) k.toNat 0 [some (.ref 0), none, none, none, none, none, none, none, none, none, none] (script0 ns) (by omega) ⟨_, _, _, _, _, _, _, _, _, _, rfl, e0⟩
  subst es
  refine ⟨g', run_f rfl rfl ?_⟩
  have rg : ∀ g, rng1 [.int k] g = .ok (itR 0 k.toNat) g := fun g => rng1_i (by omega) (by omega)
  unfold oB tB cB sB rB at e
  simp [ln]
  simp at hk
  rw [hk]
  simp [rg, e]
end K07
namespace K07
open PySem PySem.Spec L2 PM
open PyProof.Rows hiding St
def top (i : Nat) : Stmt := PySem.Challenge.pw_pagemesh_k07_patterns_changed.main.body.getD i (.Pass ⟨0, 0, 0, 0⟩)
abbrev s_Pattern_cells : Stmt := inClass (top 18) 4
abbrev N_Pattern_cells : List Str := ["self"]
abbrev ps_Pattern_cells : List Str := ["self"]
theorem sc_Pattern_cells : FnScope N_Pattern_cells ps_Pattern_cells (defScope s_Pattern_cells) := ⟨rfl, rfl, rfl, by decide +kernel, rfl, by decide +kernel, by decide +kernel⟩
abbrev A_Pattern_cells (K : PySem.W.Frag) : Addr := (adM "Pattern" "cells") K
abbrev FD_Pattern_cells (K : PySem.W.Frag) (fd : FuncData) : Prop := FunD K "cells" "Pattern.cells" (defArgs s_Pattern_cells) (defBody s_Pattern_cells) (defScope s_Pattern_cells) [] [] (A_Pattern_cells K) fd
abbrev s_Pattern_width : Stmt := inClass (top 18) 2
abbrev N_Pattern_width : List Str := ["self"]
abbrev ps_Pattern_width : List Str := ["self"]
theorem sc_Pattern_width : FnScope N_Pattern_width ps_Pattern_width (defScope s_Pattern_width) := ⟨rfl, rfl, rfl, by decide +kernel, rfl, by decide +kernel, by decide +kernel⟩
abbrev A_Pattern_width (K : PySem.W.Frag) : Addr := (adGet "Pattern" "width") K
abbrev FD_Pattern_width (K : PySem.W.Frag) (fd : FuncData) : Prop := FunD K "width" "Pattern.width" (defArgs s_Pattern_width) (defBody s_Pattern_width) (defScope s_Pattern_width) [] [] (A_Pattern_width K) fd
abbrev s_Pattern___eq__ : Stmt := inClass (top 18) 9
abbrev N_Pattern___eq__ : List Str := ["self", "other"]
abbrev ps_Pattern___eq__ : List Str := ["self", "other"]
theorem sc_Pattern___eq__ : FnScope N_Pattern___eq__ ps_Pattern___eq__ (defScope s_Pattern___eq__) := ⟨rfl, rfl, rfl, by decide +kernel, rfl, by decide +kernel, by decide +kernel⟩
abbrev A_Pattern___eq__ (K : PySem.W.Frag) : Addr := (adM "Pattern" "__eq__") K
abbrev FD_Pattern___eq__ (K : PySem.W.Frag) (fd : FuncData) : Prop := FunD K "__eq__" "Pattern.__eq__" (defArgs s_Pattern___eq__) (defBody s_Pattern___eq__) (defScope s_Pattern___eq__) [] [] (A_Pattern___eq__ K) fd
abbrev s_is_integer : Stmt := top 13
abbrev N_is_integer : List Str := ["value", "low", "high"]
abbrev ps_is_integer : List Str := ["value", "low", "high"]
theorem sc_is_integer : FnScope N_is_integer ps_is_integer (defScope s_is_integer) := ⟨rfl, rfl, rfl, by decide +kernel, rfl, by decide +kernel, by decide +kernel⟩
abbrev A_is_integer (K : PySem.W.Frag) : Addr := (adG "is_integer") K
abbrev FD_is_integer (K : PySem.W.Frag) (fd : FuncData) : Prop := FunD K "is_integer" "is_integer" (defArgs s_is_integer) (defBody s_is_integer) (defScope s_is_integer) [] [] (A_is_integer K) fd
abbrev s_are_cells : Stmt := top 17
abbrev N_are_cells : List Str := ["width", "cells", "offset", "value"]
abbrev ps_are_cells : List Str := ["width", "cells"]
theorem sc_are_cells : FnScope N_are_cells ps_are_cells (defScope s_are_cells) := ⟨rfl, rfl, rfl, by decide +kernel, rfl, by decide +kernel, by decide +kernel⟩
abbrev A_are_cells (K : PySem.W.Frag) : Addr := (adG "are_cells") K
abbrev FD_are_cells (K : PySem.W.Frag) (fd : FuncData) : Prop := FunD K "are_cells" "are_cells" (defArgs s_are_cells) (defBody s_are_cells) (defScope s_are_cells) [] [] (A_are_cells K) fd
abbrev s_Pattern___init__ : Stmt := inClass (top 18) 0
abbrev N_Pattern___init__ : List Str := ["self", "width", "cells", "offset"]
abbrev ps_Pattern___init__ : List Str := ["self", "width", "cells"]
theorem sc_Pattern___init__ : FnScope N_Pattern___init__ ps_Pattern___init__ (defScope s_Pattern___init__) := ⟨rfl, rfl, rfl, by decide +kernel, rfl, by decide +kernel, by decide +kernel⟩
abbrev A_Pattern___init__ (K : PySem.W.Frag) : Addr := (adM "Pattern" "__init__") K
abbrev FD_Pattern___init__ (K : PySem.W.Frag) (fd : FuncData) : Prop := FunD K "__init__" "Pattern.__init__" (defArgs s_Pattern___init__) (defBody s_Pattern___init__) (defScope s_Pattern___init__) [.non] [] (A_Pattern___init__ K) fd
abbrev s_Pattern_free_runs : Stmt := inClass (top 18) 21
abbrev N_Pattern_free_runs : List Str := ["self", "size", "found", "start", "at"]
abbrev ps_Pattern_free_runs : List Str := ["self", "size"]
theorem sc_Pattern_free_runs : FnScope N_Pattern_free_runs ps_Pattern_free_runs (defScope s_Pattern_free_runs) := ⟨rfl, rfl, rfl, by decide +kernel, rfl, by decide +kernel, by decide +kernel⟩
abbrev A_Pattern_free_runs (K : PySem.W.Frag) : Addr := (adM "Pattern" "free_runs") K
abbrev FD_Pattern_free_runs (K : PySem.W.Frag) (fd : FuncData) : Prop := FunD K "free_runs" "Pattern.free_runs" (defArgs s_Pattern_free_runs) (defBody s_Pattern_free_runs) (defScope s_Pattern_free_runs) [] [] (A_Pattern_free_runs K) fd
abbrev s_Pattern_offsets : Stmt := inClass (top 18) 3
abbrev N_Pattern_offsets : List Str := ["self"]
abbrev ps_Pattern_offsets : List Str := ["self"]
theorem sc_Pattern_offsets : FnScope N_Pattern_offsets ps_Pattern_offsets (defScope s_Pattern_offsets) := ⟨rfl, rfl, rfl, by decide +kernel, rfl, by decide +kernel, by decide +kernel⟩
abbrev A_Pattern_offsets (K : PySem.W.Frag) : Addr := (adM "Pattern" "offsets") K
abbrev FD_Pattern_offsets (K : PySem.W.Frag) (fd : FuncData) : Prop := FunD K "offsets" "Pattern.offsets" (defArgs s_Pattern_offsets) (defBody s_Pattern_offsets) (defScope s_Pattern_offsets) [] [] (A_Pattern_offsets K) fd
abbrev s__law_bag : Stmt := top 21
abbrev N__law_bag : List Str := ["_law_cell_here"]
abbrev ps__law_bag : List Str := ["_law_cell_here"]
theorem sc__law_bag : FnScope N__law_bag ps__law_bag (defScope s__law_bag) := ⟨rfl, rfl, rfl, by decide +kernel, rfl, by decide +kernel, by decide +kernel⟩
abbrev A__law_bag (K : PySem.W.Frag) : Addr := (adG "_law_bag") K
abbrev FD__law_bag (K : PySem.W.Frag) (fd : FuncData) : Prop := FunD K "_law_bag" "_law_bag" (defArgs s__law_bag) (defBody s__law_bag) (defScope s__law_bag) [] [] (A__law_bag K) fd
abbrev s__law_cell : Stmt := top 20
abbrev N__law_cell : List Str := ["_law_script", "_law_index"]
abbrev ps__law_cell : List Str := ["_law_script", "_law_index"]
theorem sc__law_cell : FnScope N__law_cell ps__law_cell (defScope s__law_cell) := ⟨rfl, rfl, rfl, by decide +kernel, rfl, by decide +kernel, by decide +kernel⟩
abbrev A__law_cell (K : PySem.W.Frag) : Addr := (adG "_law_cell") K
abbrev FD__law_cell (K : PySem.W.Frag) (fd : FuncData) : Prop := FunD K "_law_cell" "_law_cell" (defArgs s__law_cell) (defBody s__law_cell) (defScope s__law_cell) [] [] (A__law_cell K) fd
abbrev s_Pattern_with_cells : Stmt := inClass (top 18) 19
abbrev N_Pattern_with_cells : List Str := ["self", "cells"]
abbrev ps_Pattern_with_cells : List Str := ["self", "cells"]
theorem sc_Pattern_with_cells : FnScope N_Pattern_with_cells ps_Pattern_with_cells (defScope s_Pattern_with_cells) := ⟨rfl, rfl, rfl, by decide +kernel, rfl, by decide +kernel, by decide +kernel⟩
abbrev A_Pattern_with_cells (K : PySem.W.Frag) : Addr := (adM "Pattern" "with_cells") K
abbrev FD_Pattern_with_cells (K : PySem.W.Frag) (fd : FuncData) : Prop := FunD K "with_cells" "Pattern.with_cells" (defArgs s_Pattern_with_cells) (defBody s_Pattern_with_cells) (defScope s_Pattern_with_cells) [] [] (A_Pattern_with_cells K) fd
abbrev s_is_list : Stmt := top 12
abbrev N_is_list : List Str := ["value"]
abbrev ps_is_list : List Str := ["value"]
theorem sc_is_list : FnScope N_is_list ps_is_list (defScope s_is_list) := ⟨rfl, rfl, rfl, by decide +kernel, rfl, by decide +kernel, by decide +kernel⟩
abbrev A_is_list (K : PySem.W.Frag) : Addr := (adG "is_list") K
abbrev FD_is_list (K : PySem.W.Frag) (fd : FuncData) : Prop := FunD K "is_list" "is_list" (defArgs s_is_list) (defBody s_is_list) (defScope s_is_list) [] [] (A_is_list K) fd
abbrev s_Pattern_without : Stmt := inClass (top 18) 20
abbrev N_Pattern_without : List Str := ["self", "offsets", "left", "offset"]
abbrev ps_Pattern_without : List Str := ["self", "offsets"]
theorem sc_Pattern_without : FnScope N_Pattern_without ps_Pattern_without (defScope s_Pattern_without) := ⟨rfl, rfl, rfl, by decide +kernel, rfl, by decide +kernel, by decide +kernel⟩
abbrev A_Pattern_without (K : PySem.W.Frag) : Addr := (adM "Pattern" "without") K
abbrev FD_Pattern_without (K : PySem.W.Frag) (fd : FuncData) : Prop := FunD K "without" "Pattern.without" (defArgs s_Pattern_without) (defBody s_Pattern_without) (defScope s_Pattern_without) [] [] (A_Pattern_without K) fd
abbrev s__law_take : Stmt := top 22
abbrev N__law_take : List Str := ["_law_bag_here", "_law_count", "_law_digit", "_law_mixed"]
abbrev ps__law_take : List Str := ["_law_bag_here", "_law_count"]
theorem sc__law_take : FnScope N__law_take ps__law_take (defScope s__law_take) := ⟨rfl, rfl, rfl, by decide +kernel, rfl, by decide +kernel, by decide +kernel⟩
abbrev A__law_take (K : PySem.W.Frag) : Addr := (adG "_law_take") K
abbrev FD__law_take (K : PySem.W.Frag) (fd : FuncData) : Prop := FunD K "_law_take" "_law_take" (defArgs s__law_take) (defBody s__law_take) (defScope s__law_take) [] [] (A__law_take K) fd
abbrev s__law_change : Stmt := top 25
abbrev N__law_change : List Str := ["_law_bag_here", "_law_pattern", "_law_width", "_law_cells", "_law_rows", "_law_more", "_law_turn", "_law_stood", "_law_found", "_law_left", "_law_gone", "_law_offset"]
abbrev ps__law_change : List Str := ["_law_bag_here", "_law_pattern", "_law_width", "_law_cells"]
theorem sc__law_change : FnScope N__law_change ps__law_change (defScope s__law_change) := ⟨rfl, rfl, rfl, by decide +kernel, rfl, by decide +kernel, by decide +kernel⟩
abbrev A__law_change (K : PySem.W.Frag) : Addr := (adG "_law_change") K
abbrev FD__law_change (K : PySem.W.Frag) (fd : FuncData) : Prop := FunD K "_law_change" "_law_change" (defArgs s__law_change) (defBody s__law_change) (defScope s__law_change) [] [] (A__law_change K) fd
abbrev s__law_content : Stmt := top 23
abbrev N__law_content : List Str := ["_law_bag_here", "_law_width", "_law_left", "_law_cells", "_law_index", "_law_offset"]
abbrev ps__law_content : List Str := ["_law_bag_here"]
theorem sc__law_content : FnScope N__law_content ps__law_content (defScope s__law_content) := ⟨rfl, rfl, rfl, by decide +kernel, rfl, by decide +kernel, by decide +kernel⟩
abbrev A__law_content (K : PySem.W.Frag) : Addr := (adG "_law_content") K
abbrev FD__law_content (K : PySem.W.Frag) (fd : FuncData) : Prop := FunD K "_law_content" "_law_content" (defArgs s__law_content) (defBody s__law_content) (defScope s__law_content) [] [] (A__law_content K) fd
abbrev s__law_runs : Stmt := top 24
abbrev N__law_runs : List Str := ["_law_width", "_law_cells", "_law_size", "_law_found", "_law_start", "_law_at"]
abbrev ps__law_runs : List Str := ["_law_width", "_law_cells", "_law_size"]
theorem sc__law_runs : FnScope N__law_runs ps__law_runs (defScope s__law_runs) := ⟨rfl, rfl, rfl, by decide +kernel, rfl, by decide +kernel, by decide +kernel⟩
abbrev A__law_runs (K : PySem.W.Frag) : Addr := (adG "_law_runs") K
abbrev FD__law_runs (K : PySem.W.Frag) (fd : FuncData) : Prop := FunD K "_law_runs" "_law_runs" (defArgs s__law_runs) (defBody s__law_runs) (defScope s__law_runs) [] [] (A__law_runs K) fd
abbrev s_law : Stmt := top 26
abbrev N_law : List Str := ["_law_script", "_law_index", "_law_bag_here", "_law_width", "_law_cells", "_law_held", "_law_turn", "_law_pattern", "_law_rows", "_law_size", "_law_found"]
abbrev ps_law : List Str := ["_law_script"]
theorem sc_law : FnScope N_law ps_law (defScope s_law) := ⟨rfl, rfl, rfl, by decide +kernel, rfl, by decide +kernel, by decide +kernel⟩
abbrev A_law (K : PySem.W.Frag) : Addr := (adG "law") K
abbrev FD_law (K : PySem.W.Frag) (fd : FuncData) : Prop := FunD K "law" "law" (defArgs s_law) (defBody s_law) (defScope s_law) [] [] (A_law K) fd
structure Fx (K : PySem.W.Frag) (mg : Str → Option Value) : Prop where
  n_all : mg "all" = none
  n_bool : mg "bool" = none
  n_dict : mg "dict" = none
  n_int : mg "int" = none
  n_isinstance : mg "isinstance" = none
  n_len : mg "len" = none
  n_list : mg "list" = none
  n_max : mg "max" = none
  n_min : mg "min" = none
  n_range : mg "range" = none
  n_repr : mg "repr" = none
  n_sorted : mg "sorted" = none
  n_tuple : mg "tuple" = none
  c_MAX_VALUE : ∃ t, mg "MAX_VALUE" = some (.int 999 t)
  c_MAX_WIDTH : ∃ t, mg "MAX_WIDTH" = some (.int 66 t)
  f_Pattern_cells : ∃ fd, FD_Pattern_cells K fd
  f_Pattern_width : ∃ fd, FD_Pattern_width K fd
  f_Pattern___eq__ : ∃ fd, FD_Pattern___eq__ K fd
  g_is_integer : mg "is_integer" = some (.ref (A_is_integer K))
  f_is_integer : ∃ fd, FD_is_integer K fd
  g_are_cells : mg "are_cells" = some (.ref (A_are_cells K))
  f_are_cells : ∃ fd, FD_are_cells K fd
  f_Pattern___init__ : ∃ fd, FD_Pattern___init__ K fd
  f_Pattern_free_runs : ∃ fd, FD_Pattern_free_runs K fd
  f_Pattern_offsets : ∃ fd, FD_Pattern_offsets K fd
  g__law_bag : mg "_law_bag" = some (.ref (A__law_bag K))
  f__law_bag : ∃ fd, FD__law_bag K fd
  g__law_cell : mg "_law_cell" = some (.ref (A__law_cell K))
  f__law_cell : ∃ fd, FD__law_cell K fd
  f_Pattern_with_cells : ∃ fd, FD_Pattern_with_cells K fd
  g_is_list : mg "is_list" = some (.ref (A_is_list K))
  f_is_list : ∃ fd, FD_is_list K fd
  f_Pattern_without : ∃ fd, FD_Pattern_without K fd
  g__law_take : mg "_law_take" = some (.ref (A__law_take K))
  f__law_take : ∃ fd, FD__law_take K fd
  g__law_change : mg "_law_change" = some (.ref (A__law_change K))
  f__law_change : ∃ fd, FD__law_change K fd
  g__law_content : mg "_law_content" = some (.ref (A__law_content K))
  f__law_content : ∃ fd, FD__law_content K fd
  g__law_runs : mg "_law_runs" = some (.ref (A__law_runs K))
  f__law_runs : ∃ fd, FD__law_runs K fd
  g_law : mg "law" = some (.ref (A_law K))
  f_law : ∃ fd, FD_law K fd
  g_Pattern : mg "Pattern" = some (.ref (He.ga K "Pattern"))
  mk_Pattern : Mk K (He.ga K "Pattern") (adM "Pattern" "__init__" K)
  sl_Pattern___eq__ : PySem.W.findIn K (.ref (He.ga K "Pattern")) "__eq__" = some (some (.ref (adM "Pattern" "__eq__" K))) ∧ PySem.W.isFn K (.ref (adM "Pattern" "__eq__" K)) = true
  nf_Pattern : ∀ t ∈ NF_Pattern, PySem.W.notFirst K (He.ga K "Pattern") (t.v K) = true
  ne_Pattern : PySem.W.findIn K (.ref (He.ga K "Pattern")) "__ne__" = some (some (.builtin "object.__ne__"))
  o_Pattern : OwnC K "Pattern"
  me_Pattern_cells : Meth K (He.ga K "Pattern") "cells" (adM "Pattern" "cells" K)
  me_Pattern_offsets : Meth K (He.ga K "Pattern") "offsets" (adM "Pattern" "offsets" K)
  me_Pattern_free_runs : Meth K (He.ga K "Pattern") "free_runs" (adM "Pattern" "free_runs" K)
  na_Pattern_pattern_width : NoAttr K (He.ga K "Pattern") "pattern_width"
  pr_Pattern_width : PropOf K (He.ga K "Pattern") "width" (adP "Pattern" "width" K) (adGet "Pattern" "width" K)
  na_Pattern_value_at : NoAttr K (He.ga K "Pattern") "value_at"
  me_Pattern_with_cells : Meth K (He.ga K "Pattern") "with_cells" (adM "Pattern" "with_cells" K)
  me_Pattern_without : Meth K (He.ga K "Pattern") "without" (adM "Pattern" "without" K)
  oc : ∀ C ∈ CS, OwnC K C
  tb : TbOk K TB
section
variable {P : Program} {w : World} {K : PySem.W.Frag} {mg : Str → Option Value} {base : Heap}
theorem b__law_bag {fd : FuncData} (F : FD__law_bag K fd) : Binds K fd ps__law_bag [] := F.bindsN fun _ _ _ _ _ _ us hl => match us, hl with | [_], _ => rfl
theorem b__law_cell {fd : FuncData} (F : FD__law_cell K fd) : Binds K fd ps__law_cell [] := F.bindsN fun _ _ _ _ _ _ us hl => match us, hl with | [_, _], _ => rfl
theorem b__law_change {fd : FuncData} (F : FD__law_change K fd) : Binds K fd ps__law_change [] := F.bindsN fun _ _ _ _ _ _ us hl => match us, hl with | [_, _, _, _], _ => rfl
theorem b__law_content {fd : FuncData} (F : FD__law_content K fd) : Binds K fd ps__law_content [] := F.bindsN fun _ _ _ _ _ _ us hl => match us, hl with | [_], _ => rfl
theorem b__law_runs {fd : FuncData} (F : FD__law_runs K fd) : Binds K fd ps__law_runs [] := F.bindsN fun _ _ _ _ _ _ us hl => match us, hl with | [_, _, _], _ => rfl
theorem b__law_take {fd : FuncData} (F : FD__law_take K fd) : Binds K fd ps__law_take [] := F.bindsN fun _ _ _ _ _ _ us hl => match us, hl with | [_, _], _ => rfl
theorem b_are_cells {fd : FuncData} (F : FD_are_cells K fd) : Binds K fd ps_are_cells [] := F.bindsN fun _ _ _ _ _ _ us hl => match us, hl with | [_, _], _ => rfl
theorem b_is_integer {fd : FuncData} (F : FD_is_integer K fd) : Binds K fd ps_is_integer [] := F.bindsN fun _ _ _ _ _ _ us hl => match us, hl with | [_, _, _], _ => rfl
theorem b_is_list {fd : FuncData} (F : FD_is_list K fd) : Binds K fd ps_is_list [] := F.bindsN fun _ _ _ _ _ _ us hl => match us, hl with | [_], _ => rfl
theorem bd_Pattern___eq___2 {fd : FuncData} (F : FD_Pattern___eq__ K fd) : ∃ g gV, KbG K fd ps_Pattern___eq__ [] 2 g gV (fun us _ => us) := kbI_N F 2 rfl fun _ _ _ _ _ _ us hl => match us, hl with | [_, _], _ => rfl
theorem bd_Pattern___init___3 {fd : FuncData} (F : FD_Pattern___init__ K fd) : ∃ g gV, KbG K fd ps_Pattern___init__ [] 3 g gV (fun us _ => us) := kbI_pos F 3 (by simp) fun _ _ _ _ _ _ _ us its h1 h2 => match us, its, h1, h2 with | [_, _, _], [_], _, _ => ⟨_, rfl, rfl⟩
theorem bd_Pattern_cells_1 {fd : FuncData} (F : FD_Pattern_cells K fd) : ∃ g gV, KbG K fd ps_Pattern_cells [] 1 g gV (fun us _ => us) := kbI_N F 1 rfl fun _ _ _ _ _ _ us hl => match us, hl with | [_], _ => rfl
theorem bd_Pattern_free_runs_2 {fd : FuncData} (F : FD_Pattern_free_runs K fd) : ∃ g gV, KbG K fd ps_Pattern_free_runs [] 2 g gV (fun us _ => us) := kbI_N F 2 rfl fun _ _ _ _ _ _ us hl => match us, hl with | [_, _], _ => rfl
theorem bd_Pattern_offsets_1 {fd : FuncData} (F : FD_Pattern_offsets K fd) : ∃ g gV, KbG K fd ps_Pattern_offsets [] 1 g gV (fun us _ => us) := kbI_N F 1 rfl fun _ _ _ _ _ _ us hl => match us, hl with | [_], _ => rfl
theorem bd_Pattern_width_1 {fd : FuncData} (F : FD_Pattern_width K fd) : ∃ g gV, KbG K fd ps_Pattern_width [] 1 g gV (fun us _ => us) := kbI_N F 1 rfl fun _ _ _ _ _ _ us hl => match us, hl with | [_], _ => rfl
theorem bd_Pattern_with_cells_2 {fd : FuncData} (F : FD_Pattern_with_cells K fd) : ∃ g gV, KbG K fd ps_Pattern_with_cells [] 2 g gV (fun us _ => us) := kbI_N F 2 rfl fun _ _ _ _ _ _ us hl => match us, hl with | [_, _], _ => rfl
theorem bd_Pattern_without_2 {fd : FuncData} (F : FD_Pattern_without K fd) : ∃ g gV, KbG K fd ps_Pattern_without [] 2 g gV (fun us _ => us) := kbI_N F 2 rfl fun _ _ _ _ _ _ us hl => match us, hl with | [_, _], _ => rfl
theorem ok_Pattern_cells (T : Fx K mg) : ∃ fd, FnG P w K mg base 2 (A_Pattern_cells K) fd ps_Pattern_cells m_Pattern_cells ∧ FD_Pattern_cells K fd := by
  obtain ⟨fd, F⟩ := T.f_Pattern_cells
  refine ⟨fd, fnG_of F sc_Pattern_cells fun cdv A outer s H E hr hg => ?_, F⟩
  have tk : Takes (cxOf (L2.CX P w) P w K mg base N_Pattern_cells "Pattern.cells" (defScope s_Pattern_cells) (A_Pattern_cells K) cdv A outer s H E) (WxOf E) := takes_of rfl rfl rfl rfl
  exact (ss_one (ss_ret (se_callT cs_dict rfl T.n_dict bt_dict (sa_cons (se_fld (cs := ["Pattern"]) (ac_cons ⟨T.o_Pattern.cls, T.na_Pattern_value_at⟩ ac_nil) (se_var (pv 0))) sa_nil))))
theorem ok_Pattern_width (T : Fx K mg) : ∃ fd, FnG P w K mg base 2 (A_Pattern_width K) fd ps_Pattern_width m_Pattern_width ∧ FD_Pattern_width K fd := by
  obtain ⟨fd, F⟩ := T.f_Pattern_width
  refine ⟨fd, fnG_of F sc_Pattern_width fun cdv A outer s H E hr hg => ?_, F⟩
  have tk : Takes (cxOf (L2.CX P w) P w K mg base N_Pattern_width "Pattern.width" (defScope s_Pattern_width) (A_Pattern_width K) cdv A outer s H E) (WxOf E) := takes_of rfl rfl rfl rfl
  exact (ss_one (ss_ret (se_fld (cs := ["Pattern"]) (ac_cons ⟨T.o_Pattern.cls, T.na_Pattern_pattern_width⟩ ac_nil) (se_var (pv 0)))))
theorem ok_Pattern___eq__ (T : Fx K mg) : ∃ fd, FnG P w K mg base 4 (A_Pattern___eq__ K) fd ps_Pattern___eq__ m_Pattern___eq__ ∧ FD_Pattern___eq__ K fd := by
  obtain ⟨fd, F⟩ := T.f_Pattern___eq__
  obtain ⟨fd_Pattern_cells, G_Pattern_cells, F_Pattern_cells⟩ := ok_Pattern_cells (P := P) (w := w) (base := base) T
  obtain ⟨fd_Pattern_width, G_Pattern_width, F_Pattern_width⟩ := ok_Pattern_width (P := P) (w := w) (base := base) T
  obtain ⟨g_Pattern_cells_1, gV_Pattern_cells_1, B_Pattern_cells_1⟩ := bd_Pattern_cells_1 F_Pattern_cells
  obtain ⟨g_Pattern_width_1, gV_Pattern_width_1, B_Pattern_width_1⟩ := bd_Pattern_width_1 F_Pattern_width
  refine ⟨fd, fnG_of F sc_Pattern___eq__ fun cdv A outer s H E hr hg => ?_, F⟩
  have tk : Takes (cxOf (L2.CX P w) P w K mg base N_Pattern___eq__ "Pattern.__eq__" (defScope s_Pattern___eq__) (A_Pattern___eq__ K) cdv A outer s H E) (WxOf E) := takes_of rfl rfl rfl rfl
  exact (ss_cons (ss_if (st_not (st_tru (se_callB (cs_isO T.oc T.tb) rfl T.n_isinstance bt_isinstance (sa_cons (se_var (pv 1)) (sa_cons (se_cls rfl T.g_Pattern) sa_nil))))) (ss_one (ss_ret se_bl)) ss_nil)
    (ss_one (ss_ret (se_and (se_cmp (os_eqX hr os_no) (se_fld (cs := ["Pattern"]) (ac_cons ⟨T.o_Pattern.cls, T.na_Pattern_pattern_width⟩ ac_nil) (se_var (pv 0))) (se_prp T.o_Pattern.cls T.pr_Pattern_width G_Pattern_width (hr.mono (by decide)) hg B_Pattern_width_1 (se_var (pv 1))) (nomark _)) (se_one (se_cmp (os_eqX hr os_no) (se_fld (cs := ["Pattern"]) (ac_cons ⟨T.o_Pattern.cls, T.na_Pattern_value_at⟩ ac_nil) (se_var (pv 0))) (se_met0 T.o_Pattern.cls T.me_Pattern_cells (cG_fn G_Pattern_cells (hr.mono (by decide)) hg tk B_Pattern_cells_1 T.me_Pattern_cells.kp) (se_var (pv 1))) (nomark _)))))))
theorem ok_is_integer (T : Fx K mg) : ∃ fd, FnG P w K mg base 2 (A_is_integer K) fd ps_is_integer m_is_integer ∧ FD_is_integer K fd := by
  obtain ⟨fd, F⟩ := T.f_is_integer
  refine ⟨fd, fnG_of F sc_is_integer fun cdv A outer s H E hr hg => ?_, F⟩
  have tk : Takes (cxOf (L2.CX P w) P w K mg base N_is_integer "is_integer" (defScope s_is_integer) (A_is_integer K) cdv A outer s H E) (WxOf E) := takes_of rfl rfl rfl rfl
  exact (ss_one (ss_ret (se_and (se_callB cs_isi rfl T.n_isinstance bt_isinstance (sa_cons (se_var (pv 0)) (sa_cons (se_type rfl T.n_int bt_int) sa_nil))) (se_and (se_not (se_callB cs_isi rfl T.n_isinstance bt_isinstance (sa_cons (se_var (pv 0)) (sa_cons (se_type rfl T.n_bool bt_bool) sa_nil)))) (se_one (se_chain os_le os_le (se_var (pv 1)) (se_var (pv 0)) (se_var (pv 2))))))))
theorem ok_are_cells (T : Fx K mg) : ∃ fd, FnG P w K mg base 3 (A_are_cells K) fd ps_are_cells m_are_cells ∧ FD_are_cells K fd := by
  obtain ⟨fd, F⟩ := T.f_are_cells
  obtain ⟨fd_is_integer, G_is_integer, F_is_integer⟩ := ok_is_integer (P := P) (w := w) (base := base) T
  refine ⟨fd, fnG_of F sc_are_cells fun cdv A outer s H E hr hg => ?_, F⟩
  have tk : Takes (cxOf (L2.CX P w) P w K mg base N_are_cells "are_cells" (defScope s_are_cells) (A_are_cells K) cdv A outer s H E) (WxOf E) := takes_of rfl rfl rfl rfl
  exact (ss_cons (ss_if (st_not (st_tru (se_callB cs_isi rfl T.n_isinstance bt_isinstance (sa_cons (se_var (pv 1)) (sa_cons (se_type rfl T.n_dict bt_dict) sa_nil))))) (ss_one (ss_ret se_bl)) ss_nil)
    (ss_cons (ss_lock (ch := chE (eVar 1)) (ss_for (passes_of rfl) rfl (si_items (se_var (pv 1))) (sg_tup rfl (sg_cons (sg_name (i := 2) sc_are_cells.nd rfl (by first | exact Or.inl rfl | exact Or.inr rfl)) (sg_cons (sg_name (i := 3) sc_are_cells.nd rfl (by first | exact Or.inl rfl | exact Or.inr rfl)) sg_nil))) (ss_one (ss_if (st_w (sw_or (st_not (st_tru (se_callN G_is_integer (hr.mono (by decide)) hg tk rfl T.g_is_integer F_is_integer.kp (b_is_integer F_is_integer) (sa_cons (se_var (pv 2)) (sa_cons se_int (sa_cons (se_op os_sub (se_var (pv 0)) se_int) sa_nil)))))) (sw_or1 (st_not (st_tru (se_callN G_is_integer (hr.mono (by decide)) hg tk rfl T.g_is_integer F_is_integer.kp (b_is_integer F_is_integer) (sa_cons (se_var (pv 3)) (sa_cons se_int (sa_cons (se_globI T.c_MAX_VALUE rfl) sa_nil))))))))) (ss_one (ss_ret se_bl)) ss_nil))))
    (ss_one (ss_ret se_bl))))
theorem ok_Pattern___init__ (T : Fx K mg) : ∃ fd, FnG P w K mg base 4 (A_Pattern___init__ K) fd ps_Pattern___init__ m_Pattern___init__ ∧ FD_Pattern___init__ K fd := by
  obtain ⟨fd, F⟩ := T.f_Pattern___init__
  obtain ⟨fd_are_cells, G_are_cells, F_are_cells⟩ := ok_are_cells (P := P) (w := w) (base := base) T
  obtain ⟨fd_is_integer, G_is_integer, F_is_integer⟩ := ok_is_integer (P := P) (w := w) (base := base) T
  refine ⟨fd, fnG_of F sc_Pattern___init__ fun cdv A outer s H E hr hg => ?_, F⟩
  have tk : Takes (cxOf (L2.CX P w) P w K mg base N_Pattern___init__ "Pattern.__init__" (defScope s_Pattern___init__) (A_Pattern___init__ K) cdv A outer s H E) (WxOf E) := takes_of rfl rfl rfl rfl
  exact (ss_cons (ss_if (st_not (st_tru (se_callN G_is_integer (hr.mono (by decide)) hg tk rfl T.g_is_integer F_is_integer.kp (b_is_integer F_is_integer) (sa_cons (se_var (pv 1)) (sa_cons se_int (sa_cons (se_globI T.c_MAX_WIDTH rfl) sa_nil)))))) (ss_one s1_never) ss_nil)
    (ss_cons (ss_if (st_w (sw_and (st_cmp os_isnot (se_var (pv 2)) se_non (nomark _)) (sw_and1 (st_not (st_tru (se_callN G_are_cells (hr.mono (by decide)) hg tk rfl T.g_are_cells F_are_cells.kp (b_are_cells F_are_cells) (sa_cons (se_var (pv 1)) (sa_cons (se_var (pv 2)) sa_nil)))))))) (ss_one s1_never) ss_nil)
    (ss_cons (ss_fld (cs := ["Pattern"]) (ac_cons ⟨T.o_Pattern.cls, T.na_Pattern_pattern_width⟩ ac_nil) (se_var (pv 0)) (se_var (pv 1)))
    (ss_cons (ss_fld (cs := ["Pattern"]) (ac_cons ⟨T.o_Pattern.cls, T.na_Pattern_value_at⟩ ac_nil) (se_var (pv 0)) se_dict0)
    (ss_one (ss_if (st_cmp os_isnot (se_var (pv 2)) se_non (nomark _)) (ss_one (ss_fld (cs := ["Pattern"]) (ac_cons ⟨T.o_Pattern.cls, T.na_Pattern_value_at⟩ ac_nil) (se_var (pv 0)) (se_dc (own := [("offset", 3)]) rfl sc_Pattern___init__.nd (si_val (se_callB (cs_sorted rfl) rfl T.n_sorted bt_sorted (sa_cons (se_var (pv 2)) sa_nil))) ⟨blkOk_by (own := [("offset", 3)]) (N := N_Pattern___init__) (sc := defScope s_Pattern___init__) (by decide +kernel), fun _ _ _ _ _ => (sg_name (i := 3) sc_Pattern___init__.nd rfl (by first | exact Or.inl rfl | exact Or.inr rfl)), fun _ _ _ _ _ => spts_nil, fun _ _ _ _ _ => (se_var (pv 3))⟩ ⟨blkOk_by (own := [("offset", 3)]) (N := N_Pattern___init__) (sc := defScope s_Pattern___init__) (by decide +kernel), fun _ _ _ _ _ => (sg_name (i := 3) sc_Pattern___init__.nd rfl (by first | exact Or.inl rfl | exact Or.inr rfl)), fun _ _ _ _ _ => spts_nil, fun _ _ _ _ _ => (se_ixX hr (se_var (pv 2)) (se_var (pv 3)))⟩))) ss_nil))))))
theorem ok_Pattern_free_runs (T : Fx K mg) : ∃ fd, FnG P w K mg base 3 (A_Pattern_free_runs K) fd ps_Pattern_free_runs m_Pattern_free_runs ∧ FD_Pattern_free_runs K fd := by
  obtain ⟨fd, F⟩ := T.f_Pattern_free_runs
  obtain ⟨fd_is_integer, G_is_integer, F_is_integer⟩ := ok_is_integer (P := P) (w := w) (base := base) T
  refine ⟨fd, fnG_of F sc_Pattern_free_runs fun cdv A outer s H E hr hg => ?_, F⟩
  have tk : Takes (cxOf (L2.CX P w) P w K mg base N_Pattern_free_runs "Pattern.free_runs" (defScope s_Pattern_free_runs) (A_Pattern_free_runs K) cdv A outer s H E) (WxOf E) := takes_of rfl rfl rfl rfl
  exact (ss_cons (ss_if (st_not (st_tru (se_callN G_is_integer (hr.mono (by decide)) hg tk rfl T.g_is_integer F_is_integer.kp (b_is_integer F_is_integer) (sa_cons (se_var (pv 1)) (sa_cons se_int (sa_cons (se_globI T.c_MAX_WIDTH rfl) sa_nil)))))) (ss_one s1_never) ss_nil)
    (ss_cons (ss_set (i := 2) sc_Pattern_free_runs.nd rfl (by first | exact Or.inl rfl | exact Or.inr rfl) (se_lst sa_nil))
    (ss_cons (ss_for (passes_of rfl) rfl (si_range1 rfl T.n_range (sa_cons (se_op os_add (se_op os_sub (se_fld (cs := ["Pattern"]) (ac_cons ⟨T.o_Pattern.cls, T.na_Pattern_pattern_width⟩ ac_nil) (se_var (pv 0))) (se_var (pv 1))) se_int) sa_nil)) (sg_name (i := 3) sc_Pattern_free_runs.nd rfl (by first | exact Or.inl rfl | exact Or.inr rfl)) (ss_one (ss_if (st_tru (se_callB (cs_all rfl) rfl T.n_all bt_all (sa_cons (se_lc (own := [("at", 4)]) rfl sc_Pattern_free_runs.nd (si_range1 rfl T.n_range (sa_cons (se_var (pv 1)) sa_nil)) ⟨blkOk_by (own := [("at", 4)]) (N := N_Pattern_free_runs) (sc := defScope s_Pattern_free_runs) (by decide +kernel), fun _ _ _ _ _ => (sg_name (i := 4) sc_Pattern_free_runs.nd rfl (by first | exact Or.inl rfl | exact Or.inr rfl)), fun _ _ _ _ _ => spts_nil, fun _ _ _ _ _ => (se_cmp (os_notinX hr os_no) (se_op os_add (se_var (pv 3)) (se_var (pv 4))) (se_fld (cs := ["Pattern"]) (ac_cons ⟨T.o_Pattern.cls, T.na_Pattern_value_at⟩ ac_nil) (se_var (pv 0))) rfl)⟩) sa_nil))) (ss_one (ss_expr (se_bm PySem.F.plainAttrs_list PySem.F.slot_list_append PySem.F.type_list_append cs_append (se_var (pv 2)) (sa_cons (se_var (pv 3)) sa_nil)))) ss_nil)))
    (ss_one (ss_ret (se_var (pv 2)))))))
theorem ok_Pattern_offsets (T : Fx K mg) : ∃ fd, FnG P w K mg base 2 (A_Pattern_offsets K) fd ps_Pattern_offsets m_Pattern_offsets ∧ FD_Pattern_offsets K fd := by
  obtain ⟨fd, F⟩ := T.f_Pattern_offsets
  refine ⟨fd, fnG_of F sc_Pattern_offsets fun cdv A outer s H E hr hg => ?_, F⟩
  have tk : Takes (cxOf (L2.CX P w) P w K mg base N_Pattern_offsets "Pattern.offsets" (defScope s_Pattern_offsets) (A_Pattern_offsets K) cdv A outer s H E) (WxOf E) := takes_of rfl rfl rfl rfl
  exact (ss_one (ss_ret (se_callT (cs_list rfl) rfl T.n_list bt_list (sa_cons (se_fld (cs := ["Pattern"]) (ac_cons ⟨T.o_Pattern.cls, T.na_Pattern_value_at⟩ ac_nil) (se_var (pv 0))) sa_nil))))
theorem ok__law_bag (T : Fx K mg) : ∃ fd, FnG P w K mg base 2 (A__law_bag K) fd ps__law_bag m__law_bag ∧ FD__law_bag K fd := by
  obtain ⟨fd, F⟩ := T.f__law_bag
  refine ⟨fd, fnG_of F sc__law_bag fun cdv A outer s H E hr hg => ?_, F⟩
  have tk : Takes (cxOf (L2.CX P w) P w K mg base N__law_bag "_law_bag" (defScope s__law_bag) (A__law_bag K) cdv A outer s H E) (WxOf E) := takes_of rfl rfl rfl rfl
  exact (ss_one (ss_ret (se_lst (sa_cons (se_callB (cs_max2 rfl) rfl T.n_max bt_max (sa_cons se_int (sa_cons (se_op os_sub (se_var (pv 0)) (se_op os_pow se_int se_int)) sa_nil))) (sa_cons (se_op os_mod (se_var (pv 0)) se_int) (sa_cons se_int sa_nil))))))
theorem ok__law_cell (T : Fx K mg) : ∃ fd, FnG P w K mg base 2 (A__law_cell K) fd ps__law_cell m__law_cell ∧ FD__law_cell K fd := by
  obtain ⟨fd, F⟩ := T.f__law_cell
  refine ⟨fd, fnG_of F sc__law_cell fun cdv A outer s H E hr hg => ?_, F⟩
  have tk : Takes (cxOf (L2.CX P w) P w K mg base N__law_cell "_law_cell" (defScope s__law_cell) (A__law_cell K) cdv A outer s H E) (WxOf E) := takes_of rfl rfl rfl rfl
  exact (ss_cons (ss_if (st_cmp os_lt (se_var (pv 1)) (se_callB cs_len rfl T.n_len bt_len (sa_cons (se_var (pv 0)) sa_nil)) (nomark _)) (ss_one (ss_ret (se_ixX hr (se_var (pv 0)) (se_var (pv 1))))) ss_nil)
    (ss_one (ss_ret (se_op os_add (se_op os_mul se_int (se_var (pv 1))) se_int))))
theorem ok_Pattern_with_cells (T : Fx K mg) : ∃ fd, FnG P w K mg base 6 (A_Pattern_with_cells K) fd ps_Pattern_with_cells m_Pattern_with_cells ∧ FD_Pattern_with_cells K fd := by
  obtain ⟨fd, F⟩ := T.f_Pattern_with_cells
  obtain ⟨fd_Pattern___init__, G_Pattern___init__, F_Pattern___init__⟩ := ok_Pattern___init__ (P := P) (w := w) (base := base) T
  obtain ⟨fd_are_cells, G_are_cells, F_are_cells⟩ := ok_are_cells (P := P) (w := w) (base := base) T
  obtain ⟨g_Pattern___init___3, gV_Pattern___init___3, B_Pattern___init___3⟩ := bd_Pattern___init___3 F_Pattern___init__
  refine ⟨fd, fnG_of F sc_Pattern_with_cells fun cdv A outer s H E hr hg => ?_, F⟩
  have tk : Takes (cxOf (L2.CX P w) P w K mg base N_Pattern_with_cells "Pattern.with_cells" (defScope s_Pattern_with_cells) (A_Pattern_with_cells K) cdv A outer s H E) (WxOf E) := takes_of rfl rfl rfl rfl
  exact (ss_cons (ss_if (st_not (st_tru (se_callN G_are_cells (hr.mono (by decide)) hg tk rfl T.g_are_cells F_are_cells.kp (b_are_cells F_are_cells) (sa_cons (se_fld (cs := ["Pattern"]) (ac_cons ⟨T.o_Pattern.cls, T.na_Pattern_pattern_width⟩ ac_nil) (se_var (pv 0))) (sa_cons (se_var (pv 1)) sa_nil))))) (ss_one s1_never) ss_nil)
    (ss_one (ss_ret (se_cal (cG_mk T.mk_Pattern G_Pattern___init__ (hr.mono (by decide)) hg tk B_Pattern___init___3) rfl T.g_Pattern (sa_cons (se_fld (cs := ["Pattern"]) (ac_cons ⟨T.o_Pattern.cls, T.na_Pattern_pattern_width⟩ ac_nil) (se_var (pv 0))) (sa_cons (se_mrg (se_fld (cs := ["Pattern"]) (ac_cons ⟨T.o_Pattern.cls, T.na_Pattern_value_at⟩ ac_nil) (se_var (pv 0))) (se_var (pv 1))) sa_nil))))))
theorem ok_is_list (T : Fx K mg) : ∃ fd, FnG P w K mg base 2 (A_is_list K) fd ps_is_list m_is_list ∧ FD_is_list K fd := by
  obtain ⟨fd, F⟩ := T.f_is_list
  refine ⟨fd, fnG_of F sc_is_list fun cdv A outer s H E hr hg => ?_, F⟩
  have tk : Takes (cxOf (L2.CX P w) P w K mg base N_is_list "is_list" (defScope s_is_list) (A_is_list K) cdv A outer s H E) (WxOf E) := takes_of rfl rfl rfl rfl
  exact (ss_one (ss_ret (se_callB cs_isi rfl T.n_isinstance bt_isinstance (sa_cons (se_var (pv 0)) (sa_cons (se_tup (sa_cons (se_type rfl T.n_list bt_list) (sa_cons (se_type rfl T.n_tuple bt_tuple) sa_nil))) sa_nil)))))
theorem ok_Pattern_without (T : Fx K mg) : ∃ fd, FnG P w K mg base 6 (A_Pattern_without K) fd ps_Pattern_without m_Pattern_without ∧ FD_Pattern_without K fd := by
  obtain ⟨fd, F⟩ := T.f_Pattern_without
  obtain ⟨fd_Pattern___init__, G_Pattern___init__, F_Pattern___init__⟩ := ok_Pattern___init__ (P := P) (w := w) (base := base) T
  obtain ⟨fd_is_integer, G_is_integer, F_is_integer⟩ := ok_is_integer (P := P) (w := w) (base := base) T
  obtain ⟨fd_is_list, G_is_list, F_is_list⟩ := ok_is_list (P := P) (w := w) (base := base) T
  obtain ⟨g_Pattern___init___3, gV_Pattern___init___3, B_Pattern___init___3⟩ := bd_Pattern___init___3 F_Pattern___init__
  refine ⟨fd, fnG_of F sc_Pattern_without fun cdv A outer s H E hr hg => ?_, F⟩
  have tk : Takes (cxOf (L2.CX P w) P w K mg base N_Pattern_without "Pattern.without" (defScope s_Pattern_without) (A_Pattern_without K) cdv A outer s H E) (WxOf E) := takes_of rfl rfl rfl rfl
  exact (ss_cons (ss_if (st_w (sw_or (st_not (st_tru (se_callN G_is_list (hr.mono (by decide)) hg tk rfl T.g_is_list F_is_list.kp (b_is_list F_is_list) (sa_cons (se_var (pv 1)) sa_nil)))) (sw_or1 (st_cmp os_gt (se_callB cs_len rfl T.n_len bt_len (sa_cons (se_var (pv 1)) sa_nil)) (se_globI T.c_MAX_WIDTH rfl) (nomark _))))) (ss_one s1_never) ss_nil)
    (ss_cons (ss_set (i := 2) sc_Pattern_without.nd rfl (by first | exact Or.inl rfl | exact Or.inr rfl) (se_callT cs_dict rfl T.n_dict bt_dict (sa_cons (se_fld (cs := ["Pattern"]) (ac_cons ⟨T.o_Pattern.cls, T.na_Pattern_value_at⟩ ac_nil) (se_var (pv 0))) sa_nil)))
    (ss_cons (ss_for (passes_of rfl) rfl (si_val (se_var (pv 1))) (sg_name (i := 3) sc_Pattern_without.nd rfl (by first | exact Or.inl rfl | exact Or.inr rfl)) (ss_cons (ss_if (st_w (sw_or (st_not (st_tru (se_callN G_is_integer (hr.mono (by decide)) hg tk rfl T.g_is_integer F_is_integer.kp (b_is_integer F_is_integer) (sa_cons (se_var (pv 3)) (sa_cons se_int (sa_cons (se_op os_sub (se_fld (cs := ["Pattern"]) (ac_cons ⟨T.o_Pattern.cls, T.na_Pattern_pattern_width⟩ ac_nil) (se_var (pv 0))) se_int) sa_nil)))))) (sw_or1 (st_cmp (os_notinX hr os_no) (se_var (pv 3)) (se_var (pv 2)) rfl)))) (ss_one s1_never) ss_nil)
    (ss_one (ss_ddel (se_var (pv 2)) (se_var (pv 3))))))
    (ss_one (ss_ret (se_cal (cG_mk T.mk_Pattern G_Pattern___init__ (hr.mono (by decide)) hg tk B_Pattern___init___3) rfl T.g_Pattern (sa_cons (se_fld (cs := ["Pattern"]) (ac_cons ⟨T.o_Pattern.cls, T.na_Pattern_pattern_width⟩ ac_nil) (se_var (pv 0))) (sa_cons (se_var (pv 2)) sa_nil))))))))
theorem ok__law_take (T : Fx K mg) : ∃ fd, FnG P w K mg base 2 (A__law_take K) fd ps__law_take m__law_take ∧ FD__law_take K fd := by
  obtain ⟨fd, F⟩ := T.f__law_take
  refine ⟨fd, fnG_of F sc__law_take fun cdv A outer s H E hr hg => ?_, F⟩
  have tk : Takes (cxOf (L2.CX P w) P w K mg base N__law_take "_law_take" (defScope s__law_take) (A__law_take K) cdv A outer s H E) (WxOf E) := takes_of rfl rfl rfl rfl
  exact (ss_cons (ss_if (st_cmp os_gt (se_ixX hr (se_var (pv 0)) se_int) se_int (nomark _)) (ss_cons (ss_set (i := 2) sc__law_take.nd rfl (by first | exact Or.inl rfl | exact Or.inr rfl) (se_op os_mod (se_ixX hr (se_var (pv 0)) se_int) (se_var (pv 1))))
    (ss_cons (ss_setA hr (se_var (pv 0)) se_int (se_op os_div (se_ixX hr (se_var (pv 0)) se_int) (se_var (pv 1))))
    (ss_one (ss_ret (se_var (pv 2)))))) ss_nil)
    (ss_cons (ss_setA hr (se_var (pv 0)) se_int (se_op os_add (se_ixX hr (se_var (pv 0)) se_int) se_int))
    (ss_cons (ss_set (i := 3) sc__law_take.nd rfl (by first | exact Or.inl rfl | exact Or.inr rfl) (se_op os_mod (se_op os_pow (se_op os_add (se_op os_add (se_ixX hr (se_var (pv 0)) se_int) (se_op os_mul se_int (se_ixX hr (se_var (pv 0)) se_int))) se_int) se_int) se_int))
    (ss_cons (ss_set (i := 3) sc__law_take.nd rfl (by first | exact Or.inl rfl | exact Or.inr rfl) (se_op os_mod (se_op os_pow (se_op os_add (se_var (pv 3)) (se_op os_mul se_int (se_ixX hr (se_var (pv 0)) se_int))) se_int) se_int))
    (ss_one (ss_ret (se_op os_mod (se_op os_div (se_var (pv 3)) se_int) (se_var (pv 1)))))))))
theorem ok__law_change (T : Fx K mg) : ∃ fd, FnG P w K mg base 7 (A__law_change K) fd ps__law_change m__law_change ∧ FD__law_change K fd := by
  obtain ⟨fd, F⟩ := T.f__law_change
  obtain ⟨fd_Pattern___eq__, G_Pattern___eq__, F_Pattern___eq__⟩ := ok_Pattern___eq__ (P := P) (w := w) (base := base) T
  obtain ⟨fd_Pattern_with_cells, G_Pattern_with_cells, F_Pattern_with_cells⟩ := ok_Pattern_with_cells (P := P) (w := w) (base := base) T
  obtain ⟨fd_Pattern_without, G_Pattern_without, F_Pattern_without⟩ := ok_Pattern_without (P := P) (w := w) (base := base) T
  obtain ⟨fd__law_take, G__law_take, F__law_take⟩ := ok__law_take (P := P) (w := w) (base := base) T
  obtain ⟨g_Pattern___eq___2, gV_Pattern___eq___2, B_Pattern___eq___2⟩ := bd_Pattern___eq___2 F_Pattern___eq__
  obtain ⟨g_Pattern_with_cells_2, gV_Pattern_with_cells_2, B_Pattern_with_cells_2⟩ := bd_Pattern_with_cells_2 F_Pattern_with_cells
  obtain ⟨g_Pattern_without_2, gV_Pattern_without_2, B_Pattern_without_2⟩ := bd_Pattern_without_2 F_Pattern_without
  refine ⟨fd, fnG_of F sc__law_change fun cdv A outer s H E hr hg => ?_, F⟩
  have tk : Takes (cxOf (L2.CX P w) P w K mg base N__law_change "_law_change" (defScope s__law_change) (A__law_change K) cdv A outer s H E) (WxOf E) := takes_of rfl rfl rfl rfl
  exact (ss_cons (ss_set (i := 4) sc__law_change.nd rfl (by first | exact Or.inl rfl | exact Or.inr rfl) (se_callT cs_dict rfl T.n_dict bt_dict (sa_cons (se_var (pv 3)) sa_nil)))
    (ss_cons (ss_if (st_cmp (os_eq hr) (se_callN G__law_take (hr.mono (by decide)) hg tk rfl T.g__law_take F__law_take.kp (b__law_take F__law_take) (sa_cons (se_var (pv 0)) (sa_cons se_int sa_nil))) se_int (nomark _)) (ss_cons (ss_set (i := 5) sc__law_change.nd rfl (by first | exact Or.inl rfl | exact Or.inr rfl) se_dict0)
    (ss_cons (ss_for (passes_of rfl) rfl (si_range1 rfl T.n_range (sa_cons (se_callN G__law_take (hr.mono (by decide)) hg tk rfl T.g__law_take F__law_take.kp (b__law_take F__law_take) (sa_cons (se_var (pv 0)) (sa_cons (se_ixX hr (se_lst (sa_cons se_int (sa_cons (se_op os_add (se_callB (cs_min2 rfl) rfl T.n_min bt_min (sa_cons (se_var (pv 2)) (sa_cons se_int sa_nil))) se_int) sa_nil))) (se_callN G__law_take (hr.mono (by decide)) hg tk rfl T.g__law_take F__law_take.kp (b__law_take F__law_take) (sa_cons (se_var (pv 0)) (sa_cons se_int sa_nil)))) sa_nil))) sa_nil)) (sg_name (i := 6) sc__law_change.nd rfl (by first | exact Or.inl rfl | exact Or.inr rfl)) (ss_one (ss_setA hr (se_var (pv 5)) (se_callN G__law_take (hr.mono (by decide)) hg tk rfl T.g__law_take F__law_take.kp (b__law_take F__law_take) (sa_cons (se_var (pv 0)) (sa_cons (se_var (pv 2)) sa_nil))) (se_callN G__law_take (hr.mono (by decide)) hg tk rfl T.g__law_take F__law_take.kp (b__law_take F__law_take) (sa_cons (se_var (pv 0)) (sa_cons se_int sa_nil))))))
    (ss_cons (ss_set (i := 7) sc__law_change.nd rfl (by first | exact Or.inl rfl | exact Or.inr rfl) (se_callT cs_dict rfl T.n_dict bt_dict (sa_cons (se_var (pv 5)) sa_nil)))
    (ss_cons (ss_set (i := 8) sc__law_change.nd rfl (by first | exact Or.inl rfl | exact Or.inr rfl) (se_met T.o_Pattern.cls T.me_Pattern_with_cells (cG_fn G_Pattern_with_cells (hr.mono (by decide)) hg tk B_Pattern_with_cells_2 T.me_Pattern_with_cells.kp) (se_var (pv 1)) (sa_cons (se_var (pv 5)) sa_nil)))
    (ss_cons (ss_if (st_cmp (os_neX hr (os_neI hr T.oc T.nf_Pattern (cM_fn G_Pattern___eq__ (hr.mono (by decide)) hg tk B_Pattern___eq___2) T.ne_Pattern T.o_Pattern.hm T.sl_Pattern___eq__.1 T.sl_Pattern___eq__.2)) (se_var (pv 5)) (se_var (pv 7)) (nomark _)) (ss_one (ss_ret (se_tup (sa_cons se_non (sa_cons (se_var (pv 4)) sa_nil))))) ss_nil)
    (ss_cons (ss_expr (se_bm PySem.F.plainAttrs_dict PySem.F.slot_dict_update PySem.F.type_dict_update cs_dupdate (se_var (pv 4)) (sa_cons (se_var (pv 5)) sa_nil)))
    (ss_cons (ss_setA hr (se_var (pv 5)) se_int se_int)
    (ss_one (ss_ret (se_tup (sa_cons (se_var (pv 8)) (sa_cons (se_var (pv 4)) sa_nil)))))))))))) ss_nil)
    (ss_cons (ss_par (i := 9) (j := 10) rfl sc__law_change.nd rfl rfl (by decide) rfl rfl (sa_cons (se_callT (cs_list rfl) rfl T.n_list bt_list (sa_cons (se_var (pv 4)) sa_nil)) (sa_cons (se_lst sa_nil) sa_nil)) (by rfl))
    (ss_cons (ss_for (passes_of rfl) rfl (si_range1 rfl T.n_range (sa_cons (se_callN G__law_take (hr.mono (by decide)) hg tk rfl T.g__law_take F__law_take.kp (b__law_take F__law_take) (sa_cons (se_var (pv 0)) (sa_cons (se_ixX hr (se_lst (sa_cons (se_callB (cs_min2 rfl) rfl T.n_min bt_min (sa_cons se_int (sa_cons (se_op os_add (se_callB cs_len rfl T.n_len bt_len (sa_cons (se_var (pv 9)) sa_nil)) se_int) sa_nil))) (sa_cons (se_op os_add (se_callB cs_len rfl T.n_len bt_len (sa_cons (se_var (pv 9)) sa_nil)) se_int) sa_nil))) (se_callN G__law_take (hr.mono (by decide)) hg tk rfl T.g__law_take F__law_take.kp (b__law_take F__law_take) (sa_cons (se_var (pv 0)) (sa_cons se_int sa_nil)))) sa_nil))) sa_nil)) (sg_name (i := 6) sc__law_change.nd rfl (by first | exact Or.inl rfl | exact Or.inr rfl)) (ss_one (ss_expr (se_bm PySem.F.plainAttrs_list PySem.F.slot_list_append PySem.F.type_list_append cs_append (se_var (pv 10)) (sa_cons (se_alt (se_bm PySem.F.plainAttrs_list PySem.F.slot_list_pop PySem.F.type_list_pop cs_pop (se_var (pv 9)) (sa_cons (se_callN G__law_take (hr.mono (by decide)) hg tk rfl T.g__law_take F__law_take.kp (b__law_take F__law_take) (sa_cons (se_var (pv 0)) (sa_cons (se_callB cs_len rfl T.n_len bt_len (sa_cons (se_var (pv 9)) sa_nil)) sa_nil))) sa_nil)) (se_bm PySem.F.plainAttrs_dict PySem.F.slot_dict_pop PySem.F.type_dict_pop cs_dpop (se_var (pv 9)) (sa_cons (se_callN G__law_take (hr.mono (by decide)) hg tk rfl T.g__law_take F__law_take.kp (b__law_take F__law_take) (sa_cons (se_var (pv 0)) (sa_cons (se_callB cs_len rfl T.n_len bt_len (sa_cons (se_var (pv 9)) sa_nil)) sa_nil))) sa_nil))) sa_nil)))))
    (ss_cons (ss_set (i := 7) sc__law_change.nd rfl (by first | exact Or.inl rfl | exact Or.inr rfl) (se_callT (cs_list rfl) rfl T.n_list bt_list (sa_cons (se_var (pv 10)) sa_nil)))
    (ss_cons (ss_set (i := 8) sc__law_change.nd rfl (by first | exact Or.inl rfl | exact Or.inr rfl) (se_met T.o_Pattern.cls T.me_Pattern_without (cG_fn G_Pattern_without (hr.mono (by decide)) hg tk B_Pattern_without_2 T.me_Pattern_without.kp) (se_var (pv 1)) (sa_cons (se_ixX hr (se_lst (sa_cons (se_var (pv 10)) (sa_cons (se_callT cs_tuple rfl T.n_tuple bt_tuple (sa_cons (se_var (pv 10)) sa_nil)) sa_nil))) (se_callN G__law_take (hr.mono (by decide)) hg tk rfl T.g__law_take F__law_take.kp (b__law_take F__law_take) (sa_cons (se_var (pv 0)) (sa_cons se_int sa_nil)))) sa_nil)))
    (ss_cons (ss_if (st_cmp (os_neX hr (os_neI hr T.oc T.nf_Pattern (cM_fn G_Pattern___eq__ (hr.mono (by decide)) hg tk B_Pattern___eq___2) T.ne_Pattern T.o_Pattern.hm T.sl_Pattern___eq__.1 T.sl_Pattern___eq__.2)) (se_var (pv 10)) (se_var (pv 7)) (nomark _)) (ss_one (ss_ret (se_tup (sa_cons se_non (sa_cons (se_var (pv 4)) sa_nil))))) ss_nil)
    (ss_cons (ss_for (passes_of rfl) rfl (si_val (se_var (pv 10))) (sg_name (i := 11) sc__law_change.nd rfl (by first | exact Or.inl rfl | exact Or.inr rfl)) (ss_one (ss_expr (se_alt (se_bm PySem.F.plainAttrs_list PySem.F.slot_list_pop PySem.F.type_list_pop cs_pop (se_var (pv 4)) (sa_cons (se_var (pv 11)) sa_nil)) (se_bm PySem.F.plainAttrs_dict PySem.F.slot_dict_pop PySem.F.type_dict_pop cs_dpop (se_var (pv 4)) (sa_cons (se_var (pv 11)) sa_nil))))))
    (ss_cons (ss_expr (se_bm PySem.F.plainAttrs_list PySem.F.slot_list_append PySem.F.type_list_append cs_append (se_var (pv 10)) (sa_cons se_int sa_nil)))
    (ss_one (ss_ret (se_tup (sa_cons (se_var (pv 8)) (sa_cons (se_var (pv 4)) sa_nil))))))))))))))
theorem ok__law_content (T : Fx K mg) : ∃ fd, FnG P w K mg base 3 (A__law_content K) fd ps__law_content m__law_content ∧ FD__law_content K fd := by
  obtain ⟨fd, F⟩ := T.f__law_content
  obtain ⟨fd__law_take, G__law_take, F__law_take⟩ := ok__law_take (P := P) (w := w) (base := base) T
  refine ⟨fd, fnG_of F sc__law_content fun cdv A outer s H E hr hg => ?_, F⟩
  have tk : Takes (cxOf (L2.CX P w) P w K mg base N__law_content "_law_content" (defScope s__law_content) (A__law_content K) cdv A outer s H E) (WxOf E) := takes_of rfl rfl rfl rfl
  exact (ss_cons (ss_set (i := 1) sc__law_content.nd rfl (by first | exact Or.inl rfl | exact Or.inr rfl) (se_op os_add se_int (se_callN G__law_take (hr.mono (by decide)) hg tk rfl T.g__law_take F__law_take.kp (b__law_take F__law_take) (sa_cons (se_var (pv 0)) (sa_cons (se_ixX hr (se_lst (sa_cons se_int (sa_cons se_int (sa_cons se_int (sa_cons se_int sa_nil))))) (se_callN G__law_take (hr.mono (by decide)) hg tk rfl T.g__law_take F__law_take.kp (b__law_take F__law_take) (sa_cons (se_var (pv 0)) (sa_cons se_int sa_nil)))) sa_nil)))))
    (ss_cons (ss_par (i := 2) (j := 3) rfl sc__law_content.nd rfl rfl (by decide) rfl rfl (sa_cons (se_listRg1 rfl rfl T.n_list rfl T.n_range (se_var (pv 1))) (sa_cons se_dict0 sa_nil)) (by rfl))
    (ss_cons (ss_for (passes_of rfl) rfl (si_range1 rfl T.n_range (sa_cons (se_callN G__law_take (hr.mono (by decide)) hg tk rfl T.g__law_take F__law_take.kp (b__law_take F__law_take) (sa_cons (se_var (pv 0)) (sa_cons (se_op os_add (se_var (pv 1)) se_int) sa_nil))) sa_nil)) (sg_name (i := 4) sc__law_content.nd rfl (by first | exact Or.inl rfl | exact Or.inr rfl)) (ss_cons (ss_set (i := 5) sc__law_content.nd rfl (by first | exact Or.inl rfl | exact Or.inr rfl) (se_alt (se_bm PySem.F.plainAttrs_list PySem.F.slot_list_pop PySem.F.type_list_pop cs_pop (se_var (pv 2)) (sa_cons (se_callN G__law_take (hr.mono (by decide)) hg tk rfl T.g__law_take F__law_take.kp (b__law_take F__law_take) (sa_cons (se_var (pv 0)) (sa_cons (se_callB cs_len rfl T.n_len bt_len (sa_cons (se_var (pv 2)) sa_nil)) sa_nil))) sa_nil)) (se_bm PySem.F.plainAttrs_dict PySem.F.slot_dict_pop PySem.F.type_dict_pop cs_dpop (se_var (pv 2)) (sa_cons (se_callN G__law_take (hr.mono (by decide)) hg tk rfl T.g__law_take F__law_take.kp (b__law_take F__law_take) (sa_cons (se_var (pv 0)) (sa_cons (se_callB cs_len rfl T.n_len bt_len (sa_cons (se_var (pv 2)) sa_nil)) sa_nil))) sa_nil))))
    (ss_one (ss_setA hr (se_var (pv 3)) (se_var (pv 5)) (se_ixX hr (se_lst (sa_cons se_int (sa_cons se_int (sa_cons (se_callN G__law_take (hr.mono (by decide)) hg tk rfl T.g__law_take F__law_take.kp (b__law_take F__law_take) (sa_cons (se_var (pv 0)) (sa_cons se_int sa_nil))) (sa_cons (se_callN G__law_take (hr.mono (by decide)) hg tk rfl T.g__law_take F__law_take.kp (b__law_take F__law_take) (sa_cons (se_var (pv 0)) (sa_cons se_int sa_nil))) sa_nil))))) (se_callN G__law_take (hr.mono (by decide)) hg tk rfl T.g__law_take F__law_take.kp (b__law_take F__law_take) (sa_cons (se_var (pv 0)) (sa_cons se_int sa_nil))))))))
    (ss_one (ss_ret (se_tup (sa_cons (se_var (pv 1)) (sa_cons (se_var (pv 3)) sa_nil))))))))
theorem ok__law_runs (T : Fx K mg) : ∃ fd, FnG P w K mg base 6 (A__law_runs K) fd ps__law_runs m__law_runs ∧ FD__law_runs K fd := by
  obtain ⟨fd, F⟩ := T.f__law_runs
  obtain ⟨fd_Pattern___eq__, G_Pattern___eq__, F_Pattern___eq__⟩ := ok_Pattern___eq__ (P := P) (w := w) (base := base) T
  obtain ⟨g_Pattern___eq___2, gV_Pattern___eq___2, B_Pattern___eq___2⟩ := bd_Pattern___eq___2 F_Pattern___eq__
  refine ⟨fd, fnG_of F sc__law_runs fun cdv A outer s H E hr hg => ?_, F⟩
  have tk : Takes (cxOf (L2.CX P w) P w K mg base N__law_runs "_law_runs" (defScope s__law_runs) (A__law_runs K) cdv A outer s H E) (WxOf E) := takes_of rfl rfl rfl rfl
  exact (ss_cons (ss_set (i := 3) sc__law_runs.nd rfl (by first | exact Or.inl rfl | exact Or.inr rfl) (se_lst sa_nil))
    (ss_cons (ss_for (passes_of rfl) rfl (si_range1 rfl T.n_range (sa_cons (se_var (pv 0)) sa_nil)) (sg_name (i := 4) sc__law_runs.nd rfl (by first | exact Or.inl rfl | exact Or.inr rfl)) (ss_one (ss_if (st_w (sw_and (st_cmp os_le (se_op os_add (se_var (pv 4)) (se_var (pv 2))) (se_var (pv 0)) (nomark _)) (sw_and1 (st_cmp (os_eqX hr (os_eqI hr T.oc T.nf_Pattern (cM_fn G_Pattern___eq__ (hr.mono (by decide)) hg tk B_Pattern___eq___2) T.sl_Pattern___eq__.1 T.sl_Pattern___eq__.2)) (se_lc (own := [("_law_at", 5)]) rfl sc__law_runs.nd (si_range1 rfl T.n_range (sa_cons (se_var (pv 2)) sa_nil)) ⟨blkOk_by (own := [("_law_at", 5)]) (N := N__law_runs) (sc := defScope s__law_runs) (by decide +kernel), fun _ _ _ _ _ => (sg_name (i := 5) sc__law_runs.nd rfl (by first | exact Or.inl rfl | exact Or.inr rfl)), fun _ _ _ _ _ => (spts_one (st_cmp (os_inX hr os_no) (se_op os_add (se_var (pv 4)) (se_var (pv 5))) (se_var (pv 1)) rfl)), fun _ _ _ _ _ => (se_var (pv 5))⟩) (se_lst sa_nil) (nomark _))))) (ss_one (ss_expr (se_bm PySem.F.plainAttrs_list PySem.F.slot_list_append PySem.F.type_list_append cs_append (se_var (pv 3)) (sa_cons (se_var (pv 4)) sa_nil)))) ss_nil)))
    (ss_one (ss_ret (se_var (pv 3))))))
theorem ok_law (T : Fx K mg) : ∃ fd, FnG P w K mg base 8 (A_law K) fd ps_law m_law ∧ FD_law K fd := by
  obtain ⟨fd, F⟩ := T.f_law
  obtain ⟨fd_Pattern___eq__, G_Pattern___eq__, F_Pattern___eq__⟩ := ok_Pattern___eq__ (P := P) (w := w) (base := base) T
  obtain ⟨fd_Pattern___init__, G_Pattern___init__, F_Pattern___init__⟩ := ok_Pattern___init__ (P := P) (w := w) (base := base) T
  obtain ⟨fd_Pattern_cells, G_Pattern_cells, F_Pattern_cells⟩ := ok_Pattern_cells (P := P) (w := w) (base := base) T
  obtain ⟨fd_Pattern_free_runs, G_Pattern_free_runs, F_Pattern_free_runs⟩ := ok_Pattern_free_runs (P := P) (w := w) (base := base) T
  obtain ⟨fd_Pattern_offsets, G_Pattern_offsets, F_Pattern_offsets⟩ := ok_Pattern_offsets (P := P) (w := w) (base := base) T
  obtain ⟨fd__law_bag, G__law_bag, F__law_bag⟩ := ok__law_bag (P := P) (w := w) (base := base) T
  obtain ⟨fd__law_cell, G__law_cell, F__law_cell⟩ := ok__law_cell (P := P) (w := w) (base := base) T
  obtain ⟨fd__law_change, G__law_change, F__law_change⟩ := ok__law_change (P := P) (w := w) (base := base) T
  obtain ⟨fd__law_content, G__law_content, F__law_content⟩ := ok__law_content (P := P) (w := w) (base := base) T
  obtain ⟨fd__law_runs, G__law_runs, F__law_runs⟩ := ok__law_runs (P := P) (w := w) (base := base) T
  obtain ⟨fd__law_take, G__law_take, F__law_take⟩ := ok__law_take (P := P) (w := w) (base := base) T
  obtain ⟨g_Pattern___eq___2, gV_Pattern___eq___2, B_Pattern___eq___2⟩ := bd_Pattern___eq___2 F_Pattern___eq__
  obtain ⟨g_Pattern___init___3, gV_Pattern___init___3, B_Pattern___init___3⟩ := bd_Pattern___init___3 F_Pattern___init__
  obtain ⟨g_Pattern_cells_1, gV_Pattern_cells_1, B_Pattern_cells_1⟩ := bd_Pattern_cells_1 F_Pattern_cells
  obtain ⟨g_Pattern_free_runs_2, gV_Pattern_free_runs_2, B_Pattern_free_runs_2⟩ := bd_Pattern_free_runs_2 F_Pattern_free_runs
  obtain ⟨g_Pattern_offsets_1, gV_Pattern_offsets_1, B_Pattern_offsets_1⟩ := bd_Pattern_offsets_1 F_Pattern_offsets
  refine ⟨fd, fnG_of F sc_law fun cdv A outer s H E hr hg => ?_, F⟩
  have tk : Takes (cxOf (L2.CX P w) P w K mg base N_law "law" (defScope s_law) (A_law K) cdv A outer s H E) (WxOf E) := takes_of rfl rfl rfl rfl
  exact (ss_cons (ss_for (passes_of rfl) rfl (si_range1 rfl T.n_range (sa_cons (se_callB (cs_max2 rfl) rfl T.n_max bt_max (sa_cons se_int (sa_cons (se_callB (cs_min2 rfl) rfl T.n_min bt_min (sa_cons se_int (sa_cons (se_callB cs_len rfl T.n_len bt_len (sa_cons (se_var (pv 0)) sa_nil)) sa_nil))) sa_nil))) sa_nil)) (sg_name (i := 1) sc_law.nd rfl (by first | exact Or.inl rfl | exact Or.inr rfl)) (ss_cons (ss_set (i := 2) sc_law.nd rfl (by first | exact Or.inl rfl | exact Or.inr rfl) (se_callN G__law_bag (hr.mono (by decide)) hg tk rfl T.g__law_bag F__law_bag.kp (b__law_bag F__law_bag) (sa_cons (se_callN G__law_cell (hr.mono (by decide)) hg tk rfl T.g__law_cell F__law_cell.kp (b__law_cell F__law_cell) (sa_cons (se_var (pv 0)) (sa_cons (se_var (pv 1)) sa_nil))) sa_nil)))
    (ss_cons (ss_asg (se_callN G__law_content (hr.mono (by decide)) hg tk rfl T.g__law_content F__law_content.kp (b__law_content F__law_content) (sa_cons (se_var (pv 2)) sa_nil)) (sg_tup rfl (sg_cons (sg_name (i := 3) sc_law.nd rfl (by first | exact Or.inl rfl | exact Or.inr rfl)) (sg_cons (sg_name (i := 4) sc_law.nd rfl (by first | exact Or.inl rfl | exact Or.inr rfl)) sg_nil))))
    (ss_cons (ss_set (i := 5) sc_law.nd rfl (by first | exact Or.inl rfl | exact Or.inr rfl) (se_lst (sa_cons (se_tup (sa_cons (se_cal (cG_mk T.mk_Pattern G_Pattern___init__ (hr.mono (by decide)) hg tk B_Pattern___init___3) rfl T.g_Pattern (sa_cons (se_var (pv 3)) (sa_cons (se_var (pv 4)) sa_nil))) (sa_cons (se_var (pv 4)) sa_nil))) sa_nil)))
    (ss_cons (ss_for (passes_of rfl) rfl (si_range1 rfl T.n_range (sa_cons (se_callN G__law_take (hr.mono (by decide)) hg tk rfl T.g__law_take F__law_take.kp (b__law_take F__law_take) (sa_cons (se_var (pv 2)) (sa_cons se_int sa_nil))) sa_nil)) (sg_name (i := 6) sc_law.nd rfl (by first | exact Or.inl rfl | exact Or.inr rfl)) (ss_cons (ss_expr (se_bm PySem.F.plainAttrs_list PySem.F.slot_list_append PySem.F.type_list_append cs_append (se_var (pv 5)) (sa_cons (se_callN G__law_change (hr.mono (by decide)) hg tk rfl T.g__law_change F__law_change.kp (b__law_change F__law_change) (sa_cons (se_var (pv 2)) (sa_cons (se_ixX hr (se_ixX hr (se_var (pv 5)) (se_neg se_int)) se_int) (sa_cons (se_var (pv 3)) (sa_cons (se_ixX hr (se_ixX hr (se_var (pv 5)) (se_neg se_int)) se_int) sa_nil))))) sa_nil)))
    (ss_cons (ss_if (st_cmp os_is (se_ixX hr (se_ixX hr (se_var (pv 5)) (se_neg se_int)) se_int) se_non (nomark _)) (ss_one (ss_ret se_bl)) ss_nil)
    (ss_one (ss_for (passes_of rfl) rfl (si_val (se_var (pv 5))) (sg_tup rfl (sg_cons (sg_name (i := 7) sc_law.nd rfl (by first | exact Or.inl rfl | exact Or.inr rfl)) (sg_cons (sg_name (i := 8) sc_law.nd rfl (by first | exact Or.inl rfl | exact Or.inr rfl)) sg_nil))) (ss_one (ss_if (st_w (sw_or (st_cmp (os_neX hr (os_neI hr T.oc T.nf_Pattern (cM_fn G_Pattern___eq__ (hr.mono (by decide)) hg tk B_Pattern___eq___2) T.ne_Pattern T.o_Pattern.hm T.sl_Pattern___eq__.1 T.sl_Pattern___eq__.2)) (se_var (pv 7)) (se_cal (cG_mk T.mk_Pattern G_Pattern___init__ (hr.mono (by decide)) hg tk B_Pattern___init___3) rfl T.g_Pattern (sa_cons (se_var (pv 3)) (sa_cons (se_var (pv 8)) sa_nil))) (nomark _)) (sw_or (st_cmp (os_neX hr (os_neI hr T.oc T.nf_Pattern (cM_fn G_Pattern___eq__ (hr.mono (by decide)) hg tk B_Pattern___eq___2) T.ne_Pattern T.o_Pattern.hm T.sl_Pattern___eq__.1 T.sl_Pattern___eq__.2)) (se_met0 T.o_Pattern.cls T.me_Pattern_cells (cG_fn G_Pattern_cells (hr.mono (by decide)) hg tk B_Pattern_cells_1 T.me_Pattern_cells.kp) (se_var (pv 7))) (se_var (pv 8)) (nomark _)) (sw_or1 (st_cmp (os_neX hr (os_neI hr T.oc T.nf_Pattern (cM_fn G_Pattern___eq__ (hr.mono (by decide)) hg tk B_Pattern___eq___2) T.ne_Pattern T.o_Pattern.hm T.sl_Pattern___eq__.1 T.sl_Pattern___eq__.2)) (se_met0 T.o_Pattern.cls T.me_Pattern_offsets (cG_fn G_Pattern_offsets (hr.mono (by decide)) hg tk B_Pattern_offsets_1 T.me_Pattern_offsets.kp) (se_var (pv 7))) (se_callB (cs_sorted rfl) rfl T.n_sorted bt_sorted (sa_cons (se_var (pv 8)) sa_nil)) (nomark _)))))) (ss_one (ss_ret se_bl)) ss_nil)))))))
    (ss_cons (ss_asg (se_ixX hr (se_var (pv 5)) (se_neg se_int)) (sg_tup rfl (sg_cons (sg_name (i := 7) sc_law.nd rfl (by first | exact Or.inl rfl | exact Or.inr rfl)) (sg_cons (sg_name (i := 8) sc_law.nd rfl (by first | exact Or.inl rfl | exact Or.inr rfl)) sg_nil))))
    (ss_one (ss_for (passes_of rfl) rfl (si_val (se_op os_add (se_listRg2 rfl rfl T.n_list rfl T.n_range se_int (se_op os_add (se_callB (cs_min2 rfl) rfl T.n_min bt_min (sa_cons (se_var (pv 3)) (sa_cons se_int sa_nil))) se_int)) (se_lst (sa_cons (se_var (pv 3)) (sa_cons se_int sa_nil))))) (sg_name (i := 9) sc_law.nd rfl (by first | exact Or.inl rfl | exact Or.inr rfl)) (ss_one (ss_for (passes_of rfl) rfl (si_range1 rfl T.n_range (sa_cons se_int sa_nil)) (sg_name (i := 6) sc_law.nd rfl (by first | exact Or.inl rfl | exact Or.inr rfl)) (ss_cons (ss_set (i := 10) sc_law.nd rfl (by first | exact Or.inl rfl | exact Or.inr rfl) (se_met T.o_Pattern.cls T.me_Pattern_free_runs (cG_fn G_Pattern_free_runs (hr.mono (by decide)) hg tk B_Pattern_free_runs_2 T.me_Pattern_free_runs.kp) (se_var (pv 7)) (sa_cons (se_var (pv 9)) sa_nil)))
    (ss_cons (ss_if (st_cmp (os_ne hr) (se_callB (cs_repr hr hg) rfl T.n_repr bt_repr (sa_cons (se_var (pv 10)) sa_nil)) (se_callB (cs_repr hr hg) rfl T.n_repr bt_repr (sa_cons (se_callN G__law_runs (hr.mono (by decide)) hg tk rfl T.g__law_runs F__law_runs.kp (b__law_runs F__law_runs) (sa_cons (se_var (pv 3)) (sa_cons (se_var (pv 8)) (sa_cons (se_var (pv 9)) sa_nil)))) sa_nil)) (nomark _)) (ss_one (ss_ret se_bl)) ss_nil)
    (ss_one (ss_expr (se_bm PySem.F.plainAttrs_list PySem.F.slot_list_append PySem.F.type_list_append cs_append (se_var (pv 10)) (sa_cons se_int sa_nil))))))))))))))))
    (ss_one (ss_ret se_bl)))
end
end K07
set_option maxHeartbeats 0
namespace K07
open PySem PySem.Spec L2 PM
open PyProof.Rows hiding St
def D_Pattern_cells : DefA := ⟨(adM "Pattern" "cells"), "cells", "Pattern.cells", defArgs s_Pattern_cells, defBody s_Pattern_cells, defScope s_Pattern_cells, [], []⟩
def D_Pattern_width : DefA := ⟨(adGet "Pattern" "width"), "width", "Pattern.width", defArgs s_Pattern_width, defBody s_Pattern_width, defScope s_Pattern_width, [], []⟩
def D_Pattern___eq__ : DefA := ⟨(adM "Pattern" "__eq__"), "__eq__", "Pattern.__eq__", defArgs s_Pattern___eq__, defBody s_Pattern___eq__, defScope s_Pattern___eq__, [], []⟩
def D_is_integer : DefA := ⟨(adG "is_integer"), "is_integer", "is_integer", defArgs s_is_integer, defBody s_is_integer, defScope s_is_integer, [], []⟩
def D_are_cells : DefA := ⟨(adG "are_cells"), "are_cells", "are_cells", defArgs s_are_cells, defBody s_are_cells, defScope s_are_cells, [], []⟩
def D_Pattern___init__ : DefA := ⟨(adM "Pattern" "__init__"), "__init__", "Pattern.__init__", defArgs s_Pattern___init__, defBody s_Pattern___init__, defScope s_Pattern___init__, [.non], []⟩
def D_Pattern_free_runs : DefA := ⟨(adM "Pattern" "free_runs"), "free_runs", "Pattern.free_runs", defArgs s_Pattern_free_runs, defBody s_Pattern_free_runs, defScope s_Pattern_free_runs, [], []⟩
def D_Pattern_offsets : DefA := ⟨(adM "Pattern" "offsets"), "offsets", "Pattern.offsets", defArgs s_Pattern_offsets, defBody s_Pattern_offsets, defScope s_Pattern_offsets, [], []⟩
def D__law_bag : DefA := ⟨(adG "_law_bag"), "_law_bag", "_law_bag", defArgs s__law_bag, defBody s__law_bag, defScope s__law_bag, [], []⟩
def D__law_cell : DefA := ⟨(adG "_law_cell"), "_law_cell", "_law_cell", defArgs s__law_cell, defBody s__law_cell, defScope s__law_cell, [], []⟩
def D_Pattern_with_cells : DefA := ⟨(adM "Pattern" "with_cells"), "with_cells", "Pattern.with_cells", defArgs s_Pattern_with_cells, defBody s_Pattern_with_cells, defScope s_Pattern_with_cells, [], []⟩
def D_is_list : DefA := ⟨(adG "is_list"), "is_list", "is_list", defArgs s_is_list, defBody s_is_list, defScope s_is_list, [], []⟩
def D_Pattern_without : DefA := ⟨(adM "Pattern" "without"), "without", "Pattern.without", defArgs s_Pattern_without, defBody s_Pattern_without, defScope s_Pattern_without, [], []⟩
def D__law_take : DefA := ⟨(adG "_law_take"), "_law_take", "_law_take", defArgs s__law_take, defBody s__law_take, defScope s__law_take, [], []⟩
def D__law_change : DefA := ⟨(adG "_law_change"), "_law_change", "_law_change", defArgs s__law_change, defBody s__law_change, defScope s__law_change, [], []⟩
def D__law_content : DefA := ⟨(adG "_law_content"), "_law_content", "_law_content", defArgs s__law_content, defBody s__law_content, defScope s__law_content, [], []⟩
def D__law_runs : DefA := ⟨(adG "_law_runs"), "_law_runs", "_law_runs", defArgs s__law_runs, defBody s__law_runs, defScope s__law_runs, [], []⟩
def D_law : DefA := ⟨(adG "law"), "law", "law", defArgs s_law, defBody s_law, defScope s_law, [], []⟩
def fn : List DefA := [D_Pattern_cells, D_Pattern_width, D_Pattern___eq__, D_is_integer, D_are_cells, D_Pattern___init__, D_Pattern_free_runs, D_Pattern_offsets, D__law_bag, D__law_cell, D_Pattern_with_cells, D_is_list, D_Pattern_without, D__law_take, D__law_change, D__law_content, D__law_runs, D_law]
def fa : List Fq := [.fa (.free "all"), .fa (.free "bool"), .fa (.free "dict"), .fa (.free "int"), .fa (.free "isinstance"), .fa (.free "len"), .fa (.free "list"), .fa (.free "max"), .fa (.free "min"), .fa (.free "range"), .fa (.free "repr"), .fa (.free "sorted"), .fa (.free "tuple"), .fa (.int "MAX_VALUE" 999), .fa (.int "MAX_WIDTH" 66), .fa (.glo "is_integer"), .fa (.glo "are_cells"), .fa (.glo "_law_bag"), .fa (.glo "_law_cell"), .fa (.glo "is_list"), .fa (.glo "_law_take"), .fa (.glo "_law_change"), .fa (.glo "_law_content"), .fa (.glo "_law_runs"), .fa (.glo "law"), .fa (.glo "Pattern"), .fa (.mkr "Pattern"), .slt "Pattern" "__eq__", .nf "Pattern" NF_Pattern, .ne "Pattern", .own "Pattern", .fa (.meth "Pattern" "cells"), .fa (.meth "Pattern" "offsets"), .fa (.meth "Pattern" "free_runs"), .fa (.noat "Pattern" "pattern_width"), .prop "Pattern" "width", .fa (.noat "Pattern" "value_at"), .fa (.meth "Pattern" "with_cells"), .fa (.meth "Pattern" "without"), .tb TB]
abbrev R : PySem.W.OpenRow := PySem.W.OpenLaw.row PySem.Challenge.rw_pagemesh_k07_patterns_changed
abbrev hk : PySem.W.Hook := hookA 6 (exL fa) fn
def ob (s : PySem.W.SharedT) : AlA := obsAG 6 (exL fa) fn (HandSHeadRun.getT s)
theorem ob_eq (s : PySem.W.SharedT) : ob s = hk.obs s.abs := obsAG_eq (HandSHeadRun.getT_eq s)
def loose0 : List PySem.Str := ["_wall", "MeshError", "StateError", "InvalidInteger", "InvalidCells", "InvalidOffsets", "InvalidPattern", "Mismatch", "CellFree", "Clash", "is_list", "is_integer", "MAX_WIDTH", "MAX_VALUE", "are_cells", "Pattern", "_law_cell", "_law_bag", "_law_take", "_law_content", "_law_runs", "_law_change"]
def loose : List PySem.Str := loose0
theorem run (w : World) : HandSHeadRun.RunEq R (PySem.W.view R.prog [26]) hk ob 4000 loose w := by
  intro os
  kernel_rfl
theorem facts {K : PySem.W.Frag} {h : Heap} {mg : Str → Option Value} (X : K.In h) (G : h.Ns mainGlobals mg) (c : SaysA (exL fa) fn K) : Fx K mg where
  n_all := He.free_ok X G (c.fq 0 (f := .fa (.free "all")) rfl)
  n_bool := He.free_ok X G (c.fq 1 (f := .fa (.free "bool")) rfl)
  n_dict := He.free_ok X G (c.fq 2 (f := .fa (.free "dict")) rfl)
  n_int := He.free_ok X G (c.fq 3 (f := .fa (.free "int")) rfl)
  n_isinstance := He.free_ok X G (c.fq 4 (f := .fa (.free "isinstance")) rfl)
  n_len := He.free_ok X G (c.fq 5 (f := .fa (.free "len")) rfl)
  n_list := He.free_ok X G (c.fq 6 (f := .fa (.free "list")) rfl)
  n_max := He.free_ok X G (c.fq 7 (f := .fa (.free "max")) rfl)
  n_min := He.free_ok X G (c.fq 8 (f := .fa (.free "min")) rfl)
  n_range := He.free_ok X G (c.fq 9 (f := .fa (.free "range")) rfl)
  n_repr := He.free_ok X G (c.fq 10 (f := .fa (.free "repr")) rfl)
  n_sorted := He.free_ok X G (c.fq 11 (f := .fa (.free "sorted")) rfl)
  n_tuple := He.free_ok X G (c.fq 12 (f := .fa (.free "tuple")) rfl)
  c_MAX_VALUE := He.int_ok X G (c.fq 13 (f := .fa (.int "MAX_VALUE" 999)) rfl)
  c_MAX_WIDTH := He.int_ok X G (c.fq 14 (f := .fa (.int "MAX_WIDTH" 66)) rfl)
  g_is_integer := He.glo_ok X G (c.fq 15 (f := .fa (.glo "is_integer")) rfl)
  g_are_cells := He.glo_ok X G (c.fq 16 (f := .fa (.glo "are_cells")) rfl)
  g__law_bag := He.glo_ok X G (c.fq 17 (f := .fa (.glo "_law_bag")) rfl)
  g__law_cell := He.glo_ok X G (c.fq 18 (f := .fa (.glo "_law_cell")) rfl)
  g_is_list := He.glo_ok X G (c.fq 19 (f := .fa (.glo "is_list")) rfl)
  g__law_take := He.glo_ok X G (c.fq 20 (f := .fa (.glo "_law_take")) rfl)
  g__law_change := He.glo_ok X G (c.fq 21 (f := .fa (.glo "_law_change")) rfl)
  g__law_content := He.glo_ok X G (c.fq 22 (f := .fa (.glo "_law_content")) rfl)
  g__law_runs := He.glo_ok X G (c.fq 23 (f := .fa (.glo "_law_runs")) rfl)
  g_law := He.glo_ok X G (c.fq 24 (f := .fa (.glo "law")) rfl)
  g_Pattern := He.glo_ok X G (c.fq 25 (f := .fa (.glo "Pattern")) rfl)
  mk_Pattern := He.mkr_ok (c.fq 26 (f := .fa (.mkr "Pattern")) rfl)
  sl_Pattern___eq__ := sltB_ok (c.fq 27 (f := .slt "Pattern" "__eq__") rfl)
  nf_Pattern := nfB_ok (c.fq 28 (f := .nf "Pattern" NF_Pattern) rfl)
  ne_Pattern := He.eqO_ok (c.fq 29 (f := .ne "Pattern") rfl)
  o_Pattern := ownCB_ok (c.fq 30 (f := .own "Pattern") rfl)
  me_Pattern_cells := He.meth_ok (c.fq 31 (f := .fa (.meth "Pattern" "cells")) rfl)
  me_Pattern_offsets := He.meth_ok (c.fq 32 (f := .fa (.meth "Pattern" "offsets")) rfl)
  me_Pattern_free_runs := He.meth_ok (c.fq 33 (f := .fa (.meth "Pattern" "free_runs")) rfl)
  na_Pattern_pattern_width := He.noat_ok (c.fq 34 (f := .fa (.noat "Pattern" "pattern_width")) rfl)
  pr_Pattern_width := propB_ok (c.fq 35 (f := .prop "Pattern" "width") rfl)
  na_Pattern_value_at := He.noat_ok (c.fq 36 (f := .fa (.noat "Pattern" "value_at")) rfl)
  me_Pattern_with_cells := He.meth_ok (c.fq 37 (f := .fa (.meth "Pattern" "with_cells")) rfl)
  me_Pattern_without := He.meth_ok (c.fq 38 (f := .fa (.meth "Pattern" "without")) rfl)
  tb := tbB_ok (c.fq 39 (f := .tb TB) rfl)
  oc := (ac_cons (ownCB_ok (c.fq 30 (f := .own "Pattern") rfl)) ac_nil)
  f_Pattern_cells := c.def_ 0 (d := D_Pattern_cells) rfl
  f_Pattern_width := c.def_ 1 (d := D_Pattern_width) rfl
  f_Pattern___eq__ := c.def_ 2 (d := D_Pattern___eq__) rfl
  f_is_integer := c.def_ 3 (d := D_is_integer) rfl
  f_are_cells := c.def_ 4 (d := D_are_cells) rfl
  f_Pattern___init__ := c.def_ 5 (d := D_Pattern___init__) rfl
  f_Pattern_free_runs := c.def_ 6 (d := D_Pattern_free_runs) rfl
  f_Pattern_offsets := c.def_ 7 (d := D_Pattern_offsets) rfl
  f__law_bag := c.def_ 8 (d := D__law_bag) rfl
  f__law_cell := c.def_ 9 (d := D__law_cell) rfl
  f_Pattern_with_cells := c.def_ 10 (d := D_Pattern_with_cells) rfl
  f_is_list := c.def_ 11 (d := D_is_list) rfl
  f_Pattern_without := c.def_ 12 (d := D_Pattern_without) rfl
  f__law_take := c.def_ 13 (d := D__law_take) rfl
  f__law_change := c.def_ 14 (d := D__law_change) rfl
  f__law_content := c.def_ 15 (d := D__law_content) rfl
  f__law_runs := c.def_ 16 (d := D__law_runs) rfl
  f_law := c.def_ 17 (d := D_law) rfl
end K07
open PySem PySem.W PySem.Calls PyProof.Rows in
set_option maxRecDepth 100000 in
set_option maxHeartbeats 0 in
theorem PySem.Challenge.cw_pagemesh_k07_patterns_changed_holds : PySem.Challenge.rw_pagemesh_k07_patterns_changed.Holds := by
  w_on; o_law
  refine HandSHeadRun.head_any (r := K07.R) (q := view K07.R.prog [26]) (H := K07.hk) (ob := K07.ob) (M := 4000) (loose := K07.loose) (d := HandSHeadRun.topDef K07.R.prog 26) (kwd := []) K07.ob_eq
    (by kernel_rfl) (fun s => by kernel_rfl) K07.run (by kernel_rfl) (by kernel_rfl) (by kernel_rfl) (by rfl) (by first | assumption | decide +kernel) (by decide +kernel) ⟨rfl, rfl, rfl, rfl, rfl, by decide +kernel⟩ ?hw ?hc
  case hw => w_witness2
  case hc =>
    refine PM.walk_mirror (l := PySem.Challenge.rw_pagemesh_k07_patterns_changed) (n := 63) (k := 8) (x := "_law_script") rfl (by decide) (by kernel_rfl) ⟨rfl, by decide, by decide⟩ ?F
    intro w mg fa h Y G hmg0
    obtain ⟨K, KX, c⟩ := Y
    have hmg : mg ("law" : PySem.Str) = some (.ref fa) := by
      have e : (HandSHeadRun.topDef K07.R.prog 26).name = ("law" : PySem.Str) := by kernel_rfl
      rw [← e]
      exact hmg0
    have T := K07.facts KX G c
    cases hmg.symm.trans T.g_law
    obtain ⟨fd, F⟩ := T.f_law
    refine ⟨K, fd, K07.m_law, KX, fun s u => L2.FunD.bindsA (ps := ["_law_script"]) F (fun _ _ _ _ _ _ us hl => match us, hl with | [_], _ => rfl) s [u] rfl, K07.holds, fun base _ _ => ?_⟩
    obtain ⟨fd2, H, F2⟩ := K07.ok_law (P := (PySem.Challenge.rw_pagemesh_k07_patterns_changed).prog) (w := w) (base := base) T
    cases PM.FunD.same F F2
    exact H
