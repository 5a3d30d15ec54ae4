import PyProof.Rows.All
import Wide.All
import OpenK.AllK
import Wide.FinOn
import HandS.ForMost
import HandS.HeadHook4
import HandS.HeadHook2
import HandS.ExcOwn
import KE.KExcInit
import HandS.ExcInit
import OpenK.KCls
import HandS.ExcField
import HandS.RaiseMore
import PyProof.ExcBaseAll.LookupError
import PyProof.ExcBaseAll.ValueError
import HandS.TryMany
import PySem.Challenge.RW_pagemesh_k03_integers_and_words_in_texts
import KE.KStateDown
import HandS.Head0
import HandS.Head1
import HandS.Head2
import HandS.HeadEnd
import HandS.HeadHook1
import HandS.Flow
import HandS.Exc
import HandS.Defaults
import HandS.Ends
import HandS.EndBits
import HandS.IsInst
import HandS.Style
import HandS.Wide
import PyProof.ReprRoads
import HandS.WordsExc
import HandS.Iter
import HandS.Property
import HandS.MakeKw
import OpenK.KMeth
import OpenK.KOps
import PyProof.InstEq
import HandS.Finally
import PyProof.DictUpdate
import HandS.SortInts
import HandS.Conv
import HandS.More
import KE.KEqDict
import HandS.DictComp
import HandS.MakeKwOnly
import HandS.Text
import HandS.FStr
import HandS.NoneIn
import KE.KOpsOwn
import KE.KCallOwn
import HandS.Deep
import HandS.SortRule
import KE.GoesEnum
import HandS.Star
import KE.KUnpackStar
import HandS.SetFor
import HandS.Remove
import PyProof.AutoSeq1
import HandS.Replace
import HandS.ReplaceLit
import PyProof.PureStr
import HandS.ReplaceDef
import KE.IntTextLaws
import HandS.ReplaceList
set_option Elab.async false
set_option linter.all false
set_option maxRecDepth 100000
set_option maxHeartbeats 4000000
/-! SmQ: what the head's facts need. -/
noncomputable section
namespace PM
open PySem PySem.Spec L2
open PyProof.Rows hiding St
inductive Kd where
  | ty (n : String) | own (C : Str)
deriving DecidableEq
def Kd.v (K : PySem.W.Frag) : Kd → Value
  | .ty n => .type n
  | .own C => .ref (He.ga K C)
def ownCB (K : PySem.W.Frag) (C : Str) : Bool := (He.Fa.cls C).ok K && (He.eqO (PySem.W.findIn K (.ref (He.ga K C)) "__class__") (some (some (.builtin "object.__class__"))) && (decide (PySem.W.mroIn K (He.ga K C) (.type "object") = some true) &&
  (He.eqO (PySem.W.specialIn K (.builtin "object.__class__") "__get__") (some (some (.builtin "getset_descriptor.__get__"))) && decide (PySem.W.takesIn K (.builtin "object.__class__") = some true))))
abbrev IsT := List (Kd × Kd × Bool)
def tbB (K : PySem.W.Frag) (tb : IsT) : Bool := tb.all fun e => decide (PySem.W.kitOne K (e.1.v K) (e.2.1.v K) = some e.2.2)
abbrev Ad := PySem.W.Frag → Addr
def adG (x : Str) : Ad := fun K => He.ga K x
def adM (C m : Str) : Ad := fun K => He.ma K (He.ga K C) m
def adP (C f : Str) : Ad := fun K => He.ma K (He.ga K C) f
def adGet (C f : Str) : Ad := fun K => match PySem.W.recIn K (adP C f K) "property" with
  | some (.ref g :: _) => g
  | _ => 0
structure DefA where
  ad : Ad
  name : Str
  qual : Str
  params : Arguments
  body : List Stmt
  scope : Scope
  dfl : List He.Dv := []
  kwd : List (Str × He.Dv) := []
def seenF (K : PySem.W.Frag) (a : Addr) : He.FnW := match K.lookup a with
  | some ⟨_, _, .func u, _⟩ => some (u.name, u.qualname, u.params, u.body, u.scope, u.globals, u.closure, u.builtins)
  | _ => none
def DefA.tells (d : DefA) : He.FnW := some (d.name, d.qual, d.params, .stmts d.body, d.scope, mainGlobals, [], builtinsNs)
def DefA.dvs (K : PySem.W.Frag) (d : DefA) : List V := d.dfl.map (He.Dv.v K)
def DefA.kws (K : PySem.W.Frag) (d : DefA) : List (Str × V) := d.kwd.map fun q => (q.1, q.2.v K)
def DefA.good (K : PySem.W.Frag) (d : DefA) : Bool := (match K.lookup (d.ad K) with
  | some ⟨_, _, .func u, _⟩ => He.dflB K u.defaults (d.dvs K) && (He.kwdB K u.kwdefaults (d.kws K) && PySem.W.codeIn K u.code d.qual)
  | _ => false) && PySem.W.keepIn K (.ref (d.ad K))
abbrev AlA : Type := Bool × List He.FnW
def obsA (ex : PySem.W.Frag → Bool) (fn : List DefA) (K : PySem.W.Frag) : AlA := (ex K && fn.all fun d => d.good K, fn.map fun d => seenF K (d.ad K))
def valA (fn : List DefA) : AlA := (true, fn.map DefA.tells)
def SaysA (ex : PySem.W.Frag → Bool) (fn : List DefA) (K : PySem.W.Frag) : Prop := obsA ex fn K = valA fn
def obsAG (n : Nat) (ex : PySem.W.Frag → Bool) (fn : List DefA) (g : Addr → Option Obj) : AlA := obsA ex fn (He.frG g (He.asD g n ++ [cStatics, sysModules]))
def hookA (n : Nat) (ex : PySem.W.Frag → Bool) (fn : List DefA) : PySem.W.Hook where
  α := AlA
  obs := fun s => obsAG n ex fn s.heap.get?
  val := fun _ => valA fn
  says := fun _ h => ∃ K : PySem.W.Frag, K.In h ∧ SaysA ex fn K
  of := fun _ _ e => ⟨_, He.frG_in, e⟩
  keeps := fun _ _ _ ⟨K, hK, c⟩ k => ⟨K, PySem.W.Frag.In.keeps hK k, c⟩
theorem obsAG_eq {n : Nat} {ex : PySem.W.Frag → Bool} {fn : List DefA} {g : Addr → Option Obj} {s : Shared} (h : ∀ a, g a = s.heap.get? a) : obsAG n ex fn g = (hookA n ex fn).obs s := by
  obtain rfl : g = s.heap.get? := funext h
  rfl
def propB (K : PySem.W.Frag) (C f : Str) : Bool := He.eqO (PySem.W.findIn K (.ref (He.ga K C)) f) (some (some (.ref (adP C f K)))) && (He.eqO (PySem.W.specialIn K (.ref (adP C f K)) "__get__") (some (some (.builtin "property.__get__"))) &&
  (decide (PySem.W.takesIn K (.ref (adP C f K)) = some true) && (match PySem.W.recIn K (adP C f K) "property" with
    | some (.ref _ :: _) => true
    | _ => false)))
def sltB (K : PySem.W.Frag) (C m : Str) : Bool := He.eqO (PySem.W.findIn K (.ref (He.ga K C)) m) (some (some (.ref (adM C m K)))) && PySem.W.isFn K (.ref (adM C m K))
def neB (K : PySem.W.Frag) (C : Str) : Bool := He.eqO (PySem.W.findIn K (.ref (He.ga K C)) "__ne__") (some (some (.builtin "object.__ne__")))
def nfB (K : PySem.W.Frag) (C : Str) (nf : List Kd) : Bool := nf.all fun t => PySem.W.notFirst K (He.ga K C) (t.v K)
inductive Fq where
  | fa (f : He.Fa) | own (C : Str) | prop (C f : Str) | slt (C m : Str) | ne (C : Str) | nf (C : Str) (l : List Kd) | tb (t : IsT) | g (p : PySem.W.Frag → Bool)
def Fq.ok (K : PySem.W.Frag) : Fq → Bool
  | .fa f => f.ok K
  | .own C => ownCB K C
  | .prop C f => propB K C f
  | .slt C m => sltB K C m
  | .ne C => neB K C
  | .nf C l => nfB K C l
  | .tb t => tbB K t
  | .g p => p K
def exL (l : List Fq) (K : PySem.W.Frag) : Bool := l.all fun f => f.ok K
abbrev ExT := List (Kd × Kd × Bool)
def exB (K : PySem.W.Frag) (tb : ExT) : Bool := tb.all fun e => decide (PySem.W.exmOne K (e.1.v K) (e.2.1.v K) = some e.2.2)
abbrev kBt : List Value := [.type "KeyError", .type "LookupError", .type "Exception", .type "BaseException", .type "object"]
inductive Xb where
  | value | lookup | key
def Xb.n : Xb → String
  | .value => "ValueError"
  | .lookup => "LookupError"
  | .key => "KeyError"
def Xb.nid : Xb → String
  | .value => "ValueError.__new__"
  | .lookup => "LookupError.__new__"
  | .key => "LookupError.__new__"
def Xb.iid : Xb → String
  | .value => "ValueError.__init__"
  | .lookup => "LookupError.__init__"
  | .key => "KeyError.__init__"
def Xb.bt : Xb → List Value
  | .value => [.type "ValueError", .type "Exception", .type "BaseException", .type "object"]
  | .lookup => [.type "LookupError", .type "Exception", .type "BaseException", .type "object"]
  | .key => kBt
def cfB (o : Option PySem.W.CFound) (iid : String) : Bool := match o with
  | some (.val (.builtin j)) => decide (j = iid)
  | _ => false
def oxcB (K : PySem.W.Frag) (x p0 f : Str) (b : Xb) : Bool :=
  PySem.W.excInitIn K (He.ga K x) b.bt b.nid && (PySem.W.excOver K (He.ga K x) b.bt && (PySem.W.hasDictIn K (He.ga K x) && (He.eqO (PySem.W.findIn K (.ref (He.ga K x)) "__setattr__") (some (some (.builtin "object.__setattr__"))) &&
  (decide (PySem.W.subIn K (.ref (He.ga K x)) (.type "BaseException") = some true) && (decide (PySem.W.typeIn K (.ref (He.ga K x)) = some (.type "type")) && (PySem.W.keepIn K (.ref (He.ga K x)) && (decide (PySem.W.findIn K (.ref (He.ga K x)) f = some none) &&
  (He.eqO (PySem.W.findIn K (.ref (He.ga K x)) "__init__") (some (some (.ref (adM x "__init__" K)))) && (decide (PySem.W.typeIn K (.ref (adM x "__init__" K)) = some (.type "function")) && (PySem.W.readsIn K (He.ga K p0) (.type "type") &&
  (cfB (PySem.W.findCls K (.ref (He.ga K p0)) (.type "type") "__init__") b.iid && (He.eqO (PySem.W.specialIn K (.ref (He.ga K p0)) "__getattribute__") (some (some (.builtin "type.__getattribute__"))) && xfB K (He.ga K x)))))))))))))
def dflA (ad : Ad) (i : Nat) : Ad := fun K => match K.lookup (ad K) with
  | some ⟨_, _, .func fd, _⟩ => (match fd.defaults with
    | .ref T => (match K.lookup T with
      | some ⟨_, _, .seq its _, _⟩ => (match its.toList[i]? with
        | some (.ref a) => a
        | _ => 0)
      | _ => 0)
    | _ => 0)
  | _ => 0
def kwdA (ad : Ad) (x : Str) : Ad := fun K => match K.lookup (ad K) with
  | some ⟨_, _, .func fd, _⟩ => (match fd.kwdefaults with
    | .ref D => (match PySem.W.nsIn K D x with
      | some (some (.ref a)) => a
      | _ => 0)
    | _ => 0)
  | _ => 0
def tupB (K : PySem.W.Frag) (a : Addr) : Bool := match K.lookup a with
  | some ⟨.type c, _, .seq its _, _⟩ => decide (c = "tuple") && its.isEmpty
  | _ => false
end PM
set_option maxHeartbeats 0
namespace K03X
open PySem PySem.Spec L2 PM
open PyProof.Rows hiding St
def top (i : Nat) : Stmt := PySem.Challenge.pw_pagemesh_k03_integers_and_words_in_texts.main.body.getD i (.Pass ⟨0, 0, 0, 0⟩)
abbrev s__law_box : Stmt := top 7
abbrev s__law_cell : Stmt := top 6
abbrev s__law_take : Stmt := top 8
abbrev s__law_figures : Stmt := top 9
abbrev s__law_number : Stmt := top 10
abbrev s__law_within : Stmt := top 11
abbrev s_parse_integer : Stmt := top 3
abbrev s__law_integers_right : Stmt := top 12
abbrev s__law_line : Stmt := top 13
abbrev s_split_words : Stmt := top 4
abbrev s__law_words_right : Stmt := top 14
abbrev s_law : Stmt := top 15
def D__law_box : DefA := ⟨(adG "_law_box"), "_law_box", "_law_box", defArgs s__law_box, defBody s__law_box, defScope s__law_box, [], []⟩
def D__law_cell : DefA := ⟨(adG "_law_cell"), "_law_cell", "_law_cell", defArgs s__law_cell, defBody s__law_cell, defScope s__law_cell, [], []⟩
def D__law_take : DefA := ⟨(adG "_law_take"), "_law_take", "_law_take", defArgs s__law_take, defBody s__law_take, defScope s__law_take, [], []⟩
def D__law_figures : DefA := ⟨(adG "_law_figures"), "_law_figures", "_law_figures", defArgs s__law_figures, defBody s__law_figures, defScope s__law_figures, [], []⟩
def D__law_number : DefA := ⟨(adG "_law_number"), "_law_number", "_law_number", defArgs s__law_number, defBody s__law_number, defScope s__law_number, [], []⟩
def D__law_within : DefA := ⟨(adG "_law_within"), "_law_within", "_law_within", defArgs s__law_within, defBody s__law_within, defScope s__law_within, [], []⟩
def D_parse_integer : DefA := ⟨(adG "parse_integer"), "parse_integer", "parse_integer", defArgs s_parse_integer, defBody s_parse_integer, defScope s_parse_integer, [], [("low", .int 0), ("high", .int 999999)]⟩
def D__law_integers_right : DefA := ⟨(adG "_law_integers_right"), "_law_integers_right", "_law_integers_right", defArgs s__law_integers_right, defBody s__law_integers_right, defScope s__law_integers_right, [], []⟩
def D__law_line : DefA := ⟨(adG "_law_line"), "_law_line", "_law_line", defArgs s__law_line, defBody s__law_line, defScope s__law_line, [], []⟩
def D_split_words : DefA := ⟨(adG "split_words"), "split_words", "split_words", defArgs s_split_words, defBody s_split_words, defScope s_split_words, [], []⟩
def D__law_words_right : DefA := ⟨(adG "_law_words_right"), "_law_words_right", "_law_words_right", defArgs s__law_words_right, defBody s__law_words_right, defScope s__law_words_right, [], []⟩
def D_law : DefA := ⟨(adG "law"), "law", "law", defArgs s_law, defBody s_law, defScope s_law, [], []⟩
def fn : List DefA := [D__law_box, D__law_cell, D__law_take, D__law_figures, D__law_number, D__law_within, D_parse_integer, D__law_integers_right, D__law_line, D_split_words, D__law_words_right, D_law]
def fa : List Fq := [.fa (.free "all"), .fa (.free "any"), .fa (.free "int"), .fa (.free "isinstance"), .fa (.free "len"), .fa (.free "list"), .fa (.free "max"), .fa (.free "min"), .fa (.free "range"), .fa (.free "repr"), .fa (.free "str"), .fa (.str "DIGITS" "0123456789"), .fa (.int "MOST_DIGITS" 30), .fa (.glo "_law_box"), .fa (.glo "_law_cell"), .fa (.glo "_law_take"), .fa (.glo "_law_figures"), .fa (.glo "_law_number"), .fa (.glo "_law_within"), .fa (.glo "parse_integer"), .fa (.glo "_law_integers_right"), .fa (.glo "_law_line"), .fa (.glo "split_words"), .fa (.glo "_law_words_right"), .fa (.glo "law"), .g (fun K => (K.lookup PySem.sysModules).isSome)]
abbrev R : PySem.W.OpenRow := PySem.W.OpenLaw.row PySem.Challenge.rw_pagemesh_k03_integers_and_words_in_texts
abbrev hk : PySem.W.Hook := hookA 6 (exL fa) fn
def ob (s : PySem.W.SharedT) : AlA := obsAG 6 (exL fa) fn (HandSHeadRun.getT s)
theorem ob_eq (s : PySem.W.SharedT) : ob s = hk.obs s.abs := obsAG_eq (HandSHeadRun.getT_eq s)
def loose0 : List PySem.Str := ["DIGITS", "MOST_DIGITS", "parse_integer", "split_words", "_law_cell", "_law_box", "_law_take", "_law_figures", "_law_number", "_law_within", "_law_integers_right", "_law_line", "_law_words_right"]
def loose : List PySem.Str := loose0
def Kf (s : PySem.W.SharedT) : PySem.W.Frag := He.frG (HandSHeadRun.getT s) (He.asD (HandSHeadRun.getT s) 6 ++ [cStatics, sysModules])
def fa0 : List Fq := (fa.drop 0).take 26
def fn0 : List DefA := (fn.drop 0).take 12
theorem fa_eq : fa = fa0 := rfl
theorem fn_eq : fn = fn0 := rfl
open PySem.W PySem.Calls HandSHeadRun in
theorem runA (w : World) (os : OsState) : (endF (stepQ (denQ tabQ) R.prog w) 12000 R.prog w os).map (fun s => (looksF R.prog (boot_heap w.params) s.abs, seenQ (PySem.W.view R.prog [15]) loose (importedModules R.prog.main.body) (fun s => xlAt (PySem.W.view R.prog [15]) [] s && recOk R.toRowW.records s) s.abs)) = some (true, openGood (PySem.W.view R.prog [15]) loose) := by
  kernel_rfl
open PySem.W PySem.Calls HandSHeadRun in
theorem runF0 (w : World) (os : OsState) : (endF (stepQ (denQ tabQ) R.prog w) 12000 R.prog w os).map (fun s => exL fa0 (Kf s)) = some true := by
  kernel_rfl
open PySem.W PySem.Calls HandSHeadRun in
theorem runD0 (w : World) (os : OsState) : (endF (stepQ (denQ tabQ) R.prog w) 12000 R.prog w os).map (fun s => (fn0.all (fun d => d.good (Kf s)), fn0.map fun d => seenF (Kf s) (d.ad (Kf s)))) = some (true, fn0.map DefA.tells) := by
  kernel_rfl
theorem map_tri {α β γ δ : Type} {x : Option α} {f : α → β} {g : α → γ} {o : α → δ} {a : β} {b : γ} {c : δ} (h1 : x.map (fun s => (f s, g s)) = some (a, b)) (h2 : ∀ s, x = some s → o s = c) : x.map (fun s => (f s, g s, o s)) = some (a, b, c) := by
  cases x with
  | none => cases h1
  | some s =>
    have e := Option.some.inj h1
    have e1 := congrArg Prod.fst e
    have e2 := congrArg Prod.snd e
    have e3 := h2 s rfl
    show some (f s, g s, o s) = some (a, b, c)
    rw [e3]
    exact congrArg (fun z : β × γ => some (z.1, z.2, c)) e
theorem map_at {α β : Type} {x : Option α} {f : α → β} {b : β} (h : x.map f = some b) (s : α) (e : x = some s) : f s = b := by
  subst e
  exact Option.some.inj h
theorem ob_all {s : PySem.W.SharedT} (f0 : exL fa0 (Kf s) = true) (d0 : (fn0.all (fun d => d.good (Kf s)), fn0.map fun d => seenF (Kf s) (d.ad (Kf s))) = (true, fn0.map DefA.tells)) (w : World) : ob s = hk.val w := by
  have a : fa.all (fun f => f.ok (Kf s)) = true := by
    rw [fa_eq]
    try simp only [List.all_append, Bool.and_eq_true]
    exact f0
  have b : fn.all (fun d => d.good (Kf s)) = true := by
    rw [fn_eq]
    try simp only [List.all_append, Bool.and_eq_true]
    exact congrArg Prod.fst d0
  have c : fn.map (fun d => seenF (Kf s) (d.ad (Kf s))) = fn.map DefA.tells := by
    rw [fn_eq]
    try simp only [List.map_append]
    have g0 := congrArg Prod.snd d0
    dsimp only at g0
    rw [g0]
  show (fa.all (fun f => f.ok (Kf s)) && fn.all (fun d => d.good (Kf s)), fn.map fun d => seenF (Kf s) (d.ad (Kf s))) = (true, fn.map DefA.tells)
  rw [a, b, c]
  rfl
theorem run (w : World) : HandSHeadRun.RunEq R (PySem.W.view R.prog [15]) hk ob 12000 loose w := fun os => map_tri (runA w os) fun s e => ob_all (map_at (runF0 w os) s e) (map_at (runD0 w os) s e) w
end K03X
set_option maxHeartbeats 4000000
/-! Sm0: the mirror's values, heap, results; what ties them to the layer's. -/
noncomputable section
namespace PM
open PySem PySem.Spec L2
open PyProof.Rows hiding St

/-- a mirror's value: tuples by value, other objects by number -/
inductive W where
  | non | bl (b : Bool) | int (i : Int) | str (x : Str) | ty (n : String) | ref (i : Nat) | glo (x : Str) | tup (xs : List W)
  | vl (xs : List W) | vd (kvs : List (Key × W)) | vi (C : Str) (fs : List (Str × W))
deriving Inhabited

/-- a mirror's object: ro: a list that is only read -/
inductive Ob where
  | lst (xs : List W) | dct (kvs : List (Key × W)) | ins (C : Str) (fs : List (Str × W)) | ro (xs : List W) | lck (kvs : List (Key × W))
deriving Inhabited
abbrev MH := List Ob
abbrev MS := List (Option W)
/-- an exception: its class by name (own: of the text), the number of its own dict's object -/
inductive Xc where
  | own (x : Str) | ty (n : String)
structure Xn where
  c : Xc
  fs : List (Str × W)
inductive R (α : Type) where
  | ok (a : α) (h : MH) | exc (x : Xn) (h : MH) | stuck
inductive RS where
  | nx (σ : MS) (h : MH) | rt (w : W) (h : MH) | bk (σ : MS) (h : MH) | ct (σ : MS) (h : MH) | exc (x : Xn) (σ : MS) (h : MH) | stuck
abbrev EM := MS → MH → R W
abbrev TM := MS → MH → R Bool
abbrev AM := MS → MH → R (List W)
abbrev SM := MS → MH → RS
abbrev FM := List W → MH → R W

def R.bind {α β : Type} (r : R α) (k : α → MH → R β) : R β :=
  match r with
  | .ok a h => k a h
  | .exc x h => .exc x h
  | .stuck => .stuck
@[simp] theorem R.bind_ok {α β : Type} (a : α) (h : MH) (k : α → MH → R β) : (R.ok a h).bind k = k a h := rfl
@[simp] theorem R.bind_exc {α β : Type} (x : Xn) (h : MH) (k : α → MH → R β) : (R.exc x h).bind k = .exc x h := rfl
@[simp] theorem R.bind_stuck {α β : Type} (k : α → MH → R β) : (R.stuck : R α).bind k = .stuck := rfl
/-- a value's result within a statement -/
def R.st {α : Type} (r : R α) (σ : MS) (k : α → MH → RS) : RS :=
  match r with
  | .ok a h => k a h
  | .exc x h => .exc x σ h
  | .stuck => .stuck
@[simp] theorem R.st_ok {α : Type} (a : α) (h : MH) (σ : MS) (k : α → MH → RS) : (R.ok a h).st σ k = k a h := rfl
@[simp] theorem R.st_exc {α : Type} (x : Xn) (h : MH) (σ : MS) (k : α → MH → RS) : (R.exc x h : R α).st σ k = .exc x σ h := rfl
@[simp] theorem R.st_stuck {α : Type} (σ : MS) (k : α → MH → RS) : (R.stuck : R α).st σ k = .stuck := rfl
def RS.seq (r : RS) (k : MS → MH → RS) : RS :=
  match r with
  | .nx σ h => k σ h
  | r => r
@[simp] theorem RS.seq_nx (σ : MS) (h : MH) (k : MS → MH → RS) : (RS.nx σ h).seq k = k σ h := rfl
@[simp] theorem RS.seq_rt (w : W) (h : MH) (k : MS → MH → RS) : (RS.rt w h).seq k = .rt w h := rfl
@[simp] theorem RS.seq_bk (σ : MS) (h : MH) (k : MS → MH → RS) : (RS.bk σ h).seq k = .bk σ h := rfl
@[simp] theorem RS.seq_ct (σ : MS) (h : MH) (k : MS → MH → RS) : (RS.ct σ h).seq k = .ct σ h := rfl
@[simp] theorem RS.seq_exc (x : Xn) (σ : MS) (h : MH) (k : MS → MH → RS) : (RS.exc x σ h).seq k = .exc x σ h := rfl
@[simp] theorem RS.seq_stuck (k : MS → MH → RS) : RS.stuck.seq k = .stuck := rfl

/-- where the mirror's objects lie -/
structure Bs where
  at_ : Nat → Addr
  n : Nat
  H : Hp
  Z : Addr → Option HO

mutual
inductive Rl (K : PySem.W.Frag) (b : Bs) : W → V → Prop
  | non : Rl K b .non .non
  | bl (k : Bool) : Rl K b (.bl k) (.bl k)
  | int (i : Int) : Rl K b (.int i) (.int i)
  | str (x : Str) : Rl K b (.str x) (.str x)
  | ty (n : String) : Rl K b (.ty n) (.ty n)
  | ref (i : Nat) : i < b.n → Rl K b (.ref i) (.ref (b.at_ i))
  | glo (x : Str) : Rl K b (.glo x) (.ref (He.ga K x))
  | tup (a : Addr) (ws : List W) (vs : List V) : SqT K b.H a vs → Rls K b ws vs → Rl K b (.tup ws) (.ref a)
  | vl (a : Addr) (ws : List W) (vs : List V) : b.Z a = some (.lst vs) → Rls K b ws vs → Rl K b (.vl ws) (.ref a)
  | vd (a : Addr) (kvs : List (Key × W)) (ps : List (Key × V)) : b.Z a = some (.dK ps) → ps.map (·.1) = kvs.map (·.1) → Rls K b (kvs.map (·.2)) (ps.map (·.2)) → Rl K b (.vd kvs) (.ref a)
  | vi (a : Addr) (C : Str) (fs : List (Str × W)) (dx : Addr) (ps : List (Str × V)) : b.Z a = some (.ins (He.ga K C) dx ps) → ps.map (·.1) = fs.map (·.1) → Rls K b (fs.map (·.2)) (ps.map (·.2)) → Rl K b (.vi C fs) (.ref a)
inductive Rls (K : PySem.W.Frag) (b : Bs) : List W → List V → Prop
  | nil : Rls K b [] []
  | cons {w : W} {v : V} {ws : List W} {vs : List V} : Rl K b w v → Rls K b ws vs → Rls K b (w :: ws) (v :: vs)
end
/-- more objects, the old ones at their places; tuples stay -/
structure Ext (K : PySem.W.Frag) (b c : Bs) : Prop where
  le : b.n ≤ c.n
  ix : ∀ i, i < b.n → c.at_ i = b.at_ i
  tp : ∀ a xs, SqT K b.H a xs → SqT K c.H a xs
  fz : ∀ a o u, b.H a = some (.frz o u) → c.H a = some (.frz o u)
  zz : ∀ a u, b.Z a = some u → c.Z a = some u
theorem Ext.refl {K : PySem.W.Frag} {b : Bs} : Ext K b b := ⟨Nat.le_refl _, fun _ _ => rfl, fun _ _ h => h, fun _ _ _ h => h, fun _ _ h => h⟩
theorem Ext.trans {K : PySem.W.Frag} {a b c : Bs} (x : Ext K a b) (y : Ext K b c) : Ext K a c :=
  ⟨Nat.le_trans x.le y.le, fun i h => (y.ix i (Nat.lt_of_lt_of_le h x.le)).trans (x.ix i h), fun p xs h => y.tp p xs (x.tp p xs h), fun p o u h => y.fz p o u (x.fz p o u h), fun p u h => y.zz p u (x.zz p u h)⟩
mutual
theorem Rl.ext {K : PySem.W.Frag} {b c : Bs} (x : Ext K b c) : ∀ {w : W} {v : V}, Rl K b w v → Rl K c w v
  | _, _, .non => .non
  | _, _, .bl k => .bl k
  | _, _, .int k => .int k
  | _, _, .str k => .str k
  | _, _, .ty k => .ty k
  | _, _, .ref i h => by
    rw [← x.ix i h]
    exact .ref i (Nat.lt_of_lt_of_le h x.le)
  | _, _, .glo y => .glo y
  | _, _, .tup a ws vs h r => .tup a ws vs (x.tp a vs h) (Rls.ext x r)
  | _, _, .vl a ws vs h r => .vl a ws vs (x.zz a _ h) (Rls.ext x r)
  | _, _, .vd a kvs ps h e r => .vd a kvs ps (x.zz a _ h) e (Rls.ext x r)
  | _, _, .vi a C fs dx ps h e r => .vi a C fs dx ps (x.zz a _ h) e (Rls.ext x r)
theorem Rls.ext {K : PySem.W.Frag} {b c : Bs} (x : Ext K b c) : ∀ {ws : List W} {vs : List V}, Rls K b ws vs → Rls K c ws vs
  | _, _, .nil => .nil
  | _, _, .cons h t => .cons (Rl.ext x h) (Rls.ext x t)
end
section
variable {K : PySem.W.Frag} {b c : Bs} {ws xs : List W} {vs ys : List V} {w : W} {v : V}
theorem Rls.length (r : Rls K b ws vs) : ws.length = vs.length := by
  induction ws generalizing vs with
  | nil => cases r; rfl
  | cons w ws ih => cases r with | cons _ t => simp [ih t]
theorem Rls.get (r : Rls K b ws vs) {i : Nat} (e : ws[i]? = some w) : ∃ v, vs[i]? = some v ∧ Rl K b w v := by
  induction ws generalizing vs i with
  | nil => simp at e
  | cons z ws ih =>
    cases r with
    | cons h t =>
      cases i with
      | zero => simp at e; subst e; exact ⟨_, rfl, h⟩
      | succ i => simpa using ih t (by simpa using e)
theorem Rls.getV (r : Rls K b ws vs) {i : Nat} (e : vs[i]? = some v) : ∃ w, ws[i]? = some w ∧ Rl K b w v := by
  induction vs generalizing ws i with
  | nil => simp at e
  | cons z vs ih =>
    cases r with
    | cons h t =>
      cases i with
      | zero => simp at e; subst e; exact ⟨_, rfl, h⟩
      | succ i => simpa using ih t (by simpa using e)
theorem Rls.append (r : Rls K b ws vs) (s : Rls K b xs ys) : Rls K b (ws ++ xs) (vs ++ ys) := by
  induction ws generalizing vs with
  | nil => cases r; exact s
  | cons w ws ih => cases r with | cons h t => exact .cons h (ih t)
theorem Rls.take (n : Nat) (r : Rls K b ws vs) : Rls K b (ws.take n) (vs.take n) := by
  induction ws generalizing vs n with
  | nil => cases r; simp; exact .nil
  | cons w ws ih => cases r with | cons h t => cases n with | zero => exact .nil | succ n => exact .cons h (ih n t)
theorem Rls.drop (n : Nat) (r : Rls K b ws vs) : Rls K b (ws.drop n) (vs.drop n) := by
  induction ws generalizing vs n with
  | nil => cases r; simp; exact .nil
  | cons w ws ih => cases r with | cons h t => cases n with | zero => exact .cons h t | succ n => exact ih n t
theorem Rls.set (i : Nat) (h : Rl K b w v) (r : Rls K b ws vs) : Rls K b (ws.set i w) (vs.set i v) := by
  induction ws generalizing vs i with
  | nil => cases r; exact .nil
  | cons z ws ih => cases r with | cons h' t => cases i with | zero => exact .cons h t | succ i => exact .cons h' (ih i t)
end

/-- pairs with the same keys and related values -/
def Rlk {κ : Type} (K : PySem.W.Frag) (b : Bs) (kvs : List (κ × W)) (ps : List (κ × V)) : Prop := ps.map (·.1) = kvs.map (·.1) ∧ Rls K b (kvs.map (·.2)) (ps.map (·.2))
/-- what stands at the number i -/
def ObR (K : PySem.W.Frag) (b : Bs) (i : Nat) : Ob → Prop
  | .lst ws => ∃ vs, b.H (b.at_ i) = some (.lst vs) ∧ Rls K b ws vs
  | .ro ws => ∃ vs, ((∃ o, b.H (b.at_ i) = some (.frz o (.lst vs))) ∨ SqL K (fun _ => none) (b.at_ i) vs) ∧ Rls K b ws vs
  | .dct kvs => ∃ ps, b.H (b.at_ i) = some (.dK ps) ∧ Rlk K b kvs ps
  | .lck kvs => ∃ o ps, b.H (b.at_ i) = some (.frz o (.dK ps)) ∧ Rlk K b kvs ps
  | .ins C fs => ∃ dx ps, b.H (b.at_ i) = some (.ins (He.ga K C) dx ps) ∧ Rlk K b fs ps
/-- what may be written -/
def Ob.rw : Ob → Bool
  | .ro _ => false
  | .lck _ => false
  | _ => true
/-- what the run has laid itself -/
def Ob.mine : Ob → Bool
  | .ro _ => false
  | _ => true
theorem Ob.mine_of {o : Ob} (h : o.rw = true) : o.mine = true := by
  cases o <;> first | rfl | cases h
/-- what is frozen stands -/
def Zok (H : Hp) (a : Addr) (u : HO) : Prop := match u with
  | .ins C dx ps => H a = some (.ins C dx ps)
  | .lst vs => H a = some (.lst vs)
  | .dK ps => Rd H a (.dK ps)
  | _ => False
structure Sim (K : PySem.W.Frag) (b : Bs) (h : MH) : Prop where
  len : b.n = h.length
  ob : ∀ i o, h[i]? = some o → ObR K b i o
  inj : ∀ i j o u, h[i]? = some o → h[j]? = some u → o.mine = true → u.mine = true → b.at_ i = b.at_ j → i = j
  zh : ∀ a u, b.Z a = some u → Zok b.H a u
  zd : ∀ i o, h[i]? = some o → o.mine = true → b.Z (b.at_ i) = none

section
variable {κ : Type} {K : PySem.W.Frag} {b c : Bs} {h : MH}
theorem Rlk.ext (x : Ext K b c) {kvs : List (κ × W)} {ps : List (κ × V)} (r : Rlk K b kvs ps) : Rlk K c kvs ps := ⟨r.1, r.2.ext x⟩
theorem Rlk.cons {k : κ} {w : W} {v : V} {kvs : List (κ × W)} {ps : List (κ × V)} (r : Rl K b w v) (s : Rlk K b kvs ps) : Rlk K b ((k, w) :: kvs) ((k, v) :: ps) :=
  ⟨by simp [s.1], .cons r s.2⟩
theorem Rlk.nil : Rlk (κ := κ) K b [] [] := ⟨rfl, .nil⟩
theorem Rlk.inv {k : κ} {w : W} {kvs : List (κ × W)} {ps : List (κ × V)} (r : Rlk K b ((k, w) :: kvs) ps) : ∃ v qs, ps = (k, v) :: qs ∧ Rl K b w v ∧ Rlk K b kvs qs := by
  obtain ⟨e, r⟩ := r
  cases ps with
  | nil => cases e
  | cons p ps =>
    obtain ⟨k', v⟩ := p
    simp only [List.map_cons, List.cons.injEq] at e
    obtain ⟨rfl, e⟩ := e
    cases r with
    | cons r rr => exact ⟨v, ps, rfl, r, e, rr⟩
theorem Rlk.inv_nil {ps : List (κ × V)} (r : Rlk K b [] ps) : ps = [] := by
  obtain ⟨e, _⟩ := r
  cases ps with
  | nil => rfl
  | cons p ps => cases e

/-- the address a is not one of the objects that may be written: what is laid at the others stays -/
theorem ObR.keep {i : Nat} {o : Ob} {b' : Bs} (x : Ext K b b') (r : ObR K b i o) (hi : i < b.n) (hH : ∀ q, (o.rw = true ∨ ∃ u z, q = .frz u z) → b.H (b.at_ i) = some q → b'.H (b.at_ i) = some q) : ObR K b' i o := by
  have e := x.ix i hi
  cases o with
  | lst ws => obtain ⟨vs, h1, r⟩ := r; exact ⟨vs, by rw [e]; exact hH _ (.inl rfl) h1, r.ext x⟩
  | dct kvs => obtain ⟨ps, h1, r⟩ := r; exact ⟨ps, by rw [e]; exact hH _ (.inl rfl) h1, r.ext x⟩
  | lck kvs => obtain ⟨o, ps, h1, r⟩ := r; exact ⟨o, ps, by rw [e]; exact hH _ (.inr ⟨_, _, rfl⟩) h1, r.ext x⟩
  | ins C fs => obtain ⟨dx, ps, h1, r⟩ := r; exact ⟨dx, ps, by rw [e]; exact hH _ (.inl rfl) h1, r.ext x⟩
  | ro ws =>
    obtain ⟨vs, h1, r⟩ := r
    refine ⟨vs, ?_, r.ext x⟩
    rw [e]
    rcases h1 with ⟨o, h1⟩ | h1
    · exact .inl ⟨o, hH _ (.inr ⟨_, _, rfl⟩) h1⟩
    · exact .inr h1
theorem sqT_upd {H : Hp} {a p : Addr} {xs : List V} {o : HO} (h : SqT K H a xs) (n : ∀ q, H p = some q → (∀ ys, q ≠ .tup ys) ∧ ∀ o u, q ≠ .frz o u) : SqT K (upd H p o) a xs := by
  rcases h with (h | ⟨o', h⟩) | h
  · refine .inl (.inl ?_)
    rw [upd_ne]
    · exact h
    · rintro rfl; exact (n _ h).1 _ rfl
  · refine .inl (.inr ⟨o', ?_⟩)
    rw [upd_ne]
    · exact h
    · rintro rfl; exact (n _ h).2 _ _ rfl
  · exact .inr h
/-- a new object, at p, with the next number -/
def Bs.push (b : Bs) (p : Addr) (o : HO) : Bs := ⟨fun i => if i = b.n then p else b.at_ i, b.n + 1, upd b.H p o, b.Z⟩
theorem zok_upd {H : Hp} {a p : Addr} {u o : HO} (z : Zok H a u) (n : a ≠ p) : Zok (upd H p o) a u := by
  unfold Zok at *
  split at z
  · rw [upd_ne n]; exact z
  · rw [upd_ne n]; exact z
  · rcases z with z | ⟨q, z⟩
    · exact .inl (by rw [upd_ne n]; exact z)
    · exact .inr ⟨q, by rw [upd_ne n]; exact z⟩
  · exact z.elim
theorem zok_some {H : Hp} {a : Addr} {u : HO} (z : Zok H a u) : ∃ q, H a = some q := by
  unfold Zok at z
  split at z
  · exact ⟨_, z⟩
  · exact ⟨_, z⟩
  · rcases z with z | ⟨q, z⟩ <;> exact ⟨_, z⟩
  · exact z.elim
theorem zok_new {H : Hp} {a p : Addr} {u o : HO} (z : Zok H a u) (n : H p = none) : Zok (upd H p o) a u := zok_upd z (by
  rintro rfl
  obtain ⟨q, z⟩ := zok_some z
  rw [n] at z; cases z)
theorem Sim.zn (S : Sim K b h) {p : Addr} (n : b.H p = none) : b.Z p = none := by
  cases e : b.Z p with
  | none => rfl
  | some u =>
    obtain ⟨q, z⟩ := zok_some (S.zh p u e)
    rw [n] at z; cases z
theorem Bs.push_at (b : Bs) (p : Addr) (o : HO) : (b.push p o).at_ b.n = p := by unfold Bs.push; simp
theorem Bs.push_lt (b : Bs) (p : Addr) (o : HO) {i : Nat} (h : i < b.n) : (b.push p o).at_ i = b.at_ i := by unfold Bs.push; simp [Nat.ne_of_lt h]
theorem Ext.push {p : Addr} {o : HO} (hp : b.H p = none) : Ext K b (b.push p o) :=
  ⟨Nat.le_succ _, fun i hi => b.push_lt p o hi, fun a xs h => sqT_upd h fun q e => (by rw [hp] at e; cases e), fun a o' u h => (upd_ne (ne_of_none h hp)).trans h, fun _ _ h => h⟩
theorem ObR.some {i : Nat} {o : Ob} (r : ObR K b i o) (hr : o.rw = true) : ∃ q, b.H (b.at_ i) = some q ∧ (∀ ys, q ≠ .tup ys) ∧ (∀ o u, q ≠ .frz o u) ∧ (∀ a, q ≠ .own a) := by
  cases o with
  | lst ws => obtain ⟨vs, h1, r⟩ := r; exact ⟨_, h1, by simp, by simp, by simp⟩
  | dct kvs => obtain ⟨ps, h1, r⟩ := r; exact ⟨_, h1, by simp, by simp, by simp⟩
  | ins C fs => obtain ⟨dx, ps, h1, r⟩ := r; exact ⟨_, h1, by simp, by simp, by simp⟩
  | ro ws => cases hr
  | lck kvs => cases hr
theorem ObR.haves {i : Nat} {o : Ob} (r : ObR K b i o) (hr : o.mine = true) : ∃ q, b.H (b.at_ i) = Option.some q := by
  cases o with
  | lst ws => obtain ⟨vs, h1, r⟩ := r; exact ⟨_, h1⟩
  | dct kvs => obtain ⟨ps, h1, r⟩ := r; exact ⟨_, h1⟩
  | ins C fs => obtain ⟨dx, ps, h1, r⟩ := r; exact ⟨_, h1⟩
  | lck kvs => obtain ⟨o, ps, h1, r⟩ := r; exact ⟨_, h1⟩
  | ro ws => cases hr
theorem Sim.lt (S : Sim K b h) {i : Nat} {o : Ob} (e : h[i]? = some o) : i < b.n := by
  rw [S.len]; exact (List.getElem?_eq_some_iff.mp e).1
theorem Sim.push (S : Sim K b h) {p : Addr} {x : HO} {o : Ob} (hp : b.H p = none) (r : ObR K (b.push p x) b.n o) : Sim K (b.push p x) (h ++ [o]) := by
  have ext : Ext K b (b.push p x) := Ext.push hp
  have key : ∀ (k : Nat) (w : Ob), (h ++ [o])[k]? = some w → w.mine = true → (k = h.length ∧ (b.push p x).at_ k = p) ∨ (k < h.length ∧ h[k]? = some w ∧ (b.push p x).at_ k = b.at_ k ∧ b.at_ k ≠ p) := fun k w e hr => by
      by_cases hk : k < h.length
      · rw [List.getElem?_append_left hk] at e
        obtain ⟨q, hq⟩ := ObR.haves (S.ob k w e) hr
        exact .inr ⟨hk, e, b.push_lt p x (by rw [S.len]; exact hk), ne_of_none hq hp⟩
      · have : k = h.length := by
          have := (List.getElem?_eq_some_iff.mp e).1
          rw [List.length_append] at this
          simp at this; omega
        subst this
        refine .inl ⟨rfl, ?_⟩
        rw [← S.len]; exact b.push_at p x
  refine ⟨by rw [List.length_append, ← S.len]; rfl, fun i u e => ?_, fun i j u u' e e' hr hr' q => ?_, fun a u e => zok_new (S.zh a u e) hp, fun i u e hm => ?_⟩
  · by_cases hi : i < h.length
    · rw [List.getElem?_append_left hi] at e
      refine (S.ob i u e).keep ext (S.lt e) fun q _ hq => ?_
      show upd b.H p x _ = _
      rw [upd_ne (ne_of_none hq hp)]
      exact hq
    · have : i = h.length := by
        have := (List.getElem?_eq_some_iff.mp e).1
        rw [List.length_append] at this
        simp at this; omega
      subst this
      rw [List.getElem?_append_right (Nat.le_refl _)] at e
      simp at e; subst e
      rw [← S.len]; exact r
  · rcases key i u e hr with ⟨k1, k2⟩ | ⟨k1, k2, k3, k4⟩
    · rcases key j u' e' hr' with ⟨l1, l2⟩ | ⟨l1, l2, l3, l4⟩
      · rw [k1, l1]
      · rw [k2, l3] at q; exact absurd q.symm l4
    · rcases key j u' e' hr' with ⟨l1, l2⟩ | ⟨l1, l2, l3, l4⟩
      · rw [k3, l2] at q; exact absurd q k4
      · rw [k3, l3] at q; exact S.inj i j u u' k2 l2 hr hr' q
  · show b.Z _ = none
    rcases key i u e hm with ⟨k1, k2⟩ | ⟨k1, k2, k3, k4⟩
    · rw [k2]; exact S.zn hp
    · rw [k3]; exact S.zd i u k2 hm
/-- the object with the number i is changed -/
def Bs.put (b : Bs) (i : Nat) (x : HO) : Bs := ⟨b.at_, b.n, upd b.H (b.at_ i) x, b.Z⟩
theorem Ext.put {i : Nat} {x : HO} {o : Ob} (r : ObR K b i o) (hr : o.rw = true) : Ext K b (b.put i x) :=
  ⟨Nat.le_refl _, fun _ _ => rfl, fun a xs h => sqT_upd h fun q e => (by
    obtain ⟨q', e', n1, n2, _⟩ := r.some hr
    rw [e'] at e; cases e; exact ⟨n1, n2⟩), fun a o' u h => (upd_ne (by
    rintro rfl
    obtain ⟨q', e', n1, n2, _⟩ := r.some hr
    rw [e'] at h; cases h; exact absurd rfl (n2 _ _))).trans h, fun _ _ h => h⟩
theorem Sim.put (S : Sim K b h) {i : Nat} {x : HO} {o o' : Ob} (e : h[i]? = some o) (hr : o.rw = true) (hr' : o'.rw = true) (r : ObR K (b.put i x) i o') : Sim K (b.put i x) (h.set i o') := by
  have ext : Ext K b (b.put i x) := Ext.put (S.ob i o e) hr
  have hi : i < h.length := (List.getElem?_eq_some_iff.mp e).1
  have key : ∀ (k : Nat) (w : Ob), (h.set i o')[k]? = some w → w.mine = true → ∃ w' : Ob, h[k]? = some w' ∧ w'.mine = true := fun k (w : Ob) e2 hw => by
      by_cases hk : i = k
      · subst hk; exact ⟨o, e, Ob.mine_of hr⟩
      · rw [List.getElem?_set_ne hk] at e2; exact ⟨w, e2, hw⟩
  refine ⟨by rw [List.length_set, ← S.len]; rfl, fun j u ej => ?_, fun j k u u' ej ek hu hu' q => ?_, fun a u ea => zok_upd (S.zh a u ea) (by
    rintro rfl
    have ea : b.Z (b.at_ i) = some u := ea
    rw [S.zd i o e (Ob.mine_of hr)] at ea; cases ea), fun j u ej hm => ?_⟩
  · by_cases hj : i = j
    · subst hj
      rw [List.getElem?_set_self hi] at ej
      cases ej; exact r
    · rw [List.getElem?_set_ne hj] at ej
      refine (S.ob j u ej).keep ext (S.lt ej) fun q hk hq => ?_
      show upd b.H (b.at_ i) x _ = _
      rw [upd_ne]
      · exact hq
      · intro z
        obtain ⟨q', hq', n1, n2, n3⟩ := (S.ob i o e).some hr
        rcases hk with hw | ⟨o2, z2, e2⟩
        · exact hj (S.inj i j o u e ej (Ob.mine_of hr) (Ob.mine_of hw) z.symm)
        · rw [z, hq'] at hq
          cases hq
          exact n2 _ _ e2
  · obtain ⟨u1, e1, w1⟩ := key j u ej hu
    obtain ⟨u2, e2, w2⟩ := key k u' ek hu'
    exact S.inj j k u1 u2 e1 e2 w1 w2 q
  · obtain ⟨u1, e1, w1⟩ := key j u ej hm
    exact S.zd j u1 e1 w1
end
end PM
/-! Sm1: what it is that a mirror's part stands for a piece of the text; names, constants, tests, small statements. -/
noncomputable section
namespace PM
open PySem PySem.Spec L2
open PyProof.Rows hiding St

def Xc.v (K : PySem.W.Frag) : Xc → Value
  | .own x => .ref (He.ga K x)
  | .ty n => .type n
/-- an exception's own dict -/
def XfR (K : PySem.W.Frag) (c : Bs) (fs : List (Str × W)) (d : Option Addr) : Prop := match fs with
  | [] => d = none
  | fs => ∃ a ps, d = some a ∧ c.H a = some (.xd ps) ∧ Rlk K c fs ps
/-- behind a part: its result, and what is wanted (of an exception: We) -/
def Post {α β : Type} (K : PySem.W.Frag) (rel : Bs → α → β → Prop) (We : Value → Option Addr → Hp → Prop) (b : Bs) (Q : β → Hp → Prop) : R α → Prop
  | .ok w h => ∀ c v, Ext K b c → Sim K c h → rel c w v → Q v c.H
  | .exc x h => ∀ c d, Ext K b c → Sim K c h → XfR K c x.fs d → We (x.c.v K) d c.H
  | .stuck => False
section
variable {α β γ δ : Type} {K : PySem.W.Frag} {rel : Bs → α → β → Prop} {rel' : Bs → γ → δ → Prop} {We : Value → Option Addr → Hp → Prop} {b c : Bs}
theorem Post.ext {Q : β → Hp → Prop} {r : R α} (h : Post K rel We b Q r) (x : Ext K b c) : Post K rel We c Q r := by
  cases r with
  | ok w g => exact fun d v y => h d v (x.trans y)
  | exc e g => exact fun d da y => h d da (x.trans y)
  | stuck => exact h
theorem Post.bind {Q : δ → Hp → Prop} {r : R α} {k : α → MH → R γ} (h : Post K rel' We b Q (r.bind k)) :
    Post K rel We b (fun v H1 => ∃ c w g, c.H = H1 ∧ Ext K b c ∧ Sim K c g ∧ rel c w v ∧ Post K rel' We c Q (k w g)) r := by
  cases r with
  | ok w g => exact fun c v x s r => ⟨c, w, g, rfl, x, s, r, Post.ext (r := k w g) h x⟩
  | exc e g => exact h
  | stuck => exact h
theorem Post.mono {Q Q' : β → Hp → Prop} {r : R α} (h : Post K rel We b Q r) (m : ∀ v H, Q v H → Q' v H) : Post K rel We b Q' r := by
  cases r with
  | ok w g => exact fun c v x s r => m _ _ (h c v x s r)
  | exc e g => exact h
  | stuck => exact h
end
/-- the slots -/
structure SlM (K : PySem.W.Frag) (b : Bs) (m : MS) (σ : L2.St) : Prop where
  len : m.length = σ.length
  at_ : ∀ (i : Nat) (w : W), m[i]? = some (some w) → ∃ v, σ[i]? = some (some v) ∧ Rl K b w v
theorem SlM.ext {K : PySem.W.Frag} {b c : Bs} {m : MS} {σ : L2.St} (s : SlM K b m σ) (x : Ext K b c) : SlM K c m σ := ⟨s.len, fun i w e => let ⟨v, h, r⟩ := s.at_ i w e; ⟨v, h, r.ext x⟩⟩
theorem SlM.set {K : PySem.W.Frag} {b : Bs} {m : MS} {σ : L2.St} {w : W} {v : V} (s : SlM K b m σ) (i : Nat) (r : Rl K b w v) : SlM K b (m.set i (some w)) (σ.set i (some v)) := by
  refine ⟨by simp [s.len], fun j u e => ?_⟩
  by_cases hj : i = j
  · subst hj
    by_cases hi : i < m.length
    · rw [List.getElem?_set_self hi] at e
      cases e
      exact ⟨v, by rw [List.getElem?_set_self (by rw [← s.len]; exact hi)], r⟩
    · rw [List.getElem?_eq_none (by simpa using hi)] at e; cases e
  · rw [List.getElem?_set_ne hj] at e
    obtain ⟨v', h', r'⟩ := s.at_ j u e
    exact ⟨v', by rw [List.getElem?_set_ne hj]; exact h', r'⟩
abbrev rEqB : Bs → Bool → Bool → Prop := fun _ a b => a = b

def tSim (K : PySem.W.Frag) (Wx : WX) (m : EM) : TE := fun σ H Q => ∃ (b : Bs) (h : MH) (σm : MS), b.H = H ∧ Sim K b h ∧ SlM K b σm σ ∧ Post K (Rl K) (fun c d H' => Wx c d σ H') b Q (m σm h)
def tSimT (K : PySem.W.Frag) (Wx : WX) (m : TM) : TT := fun σ H Q => ∃ (b : Bs) (h : MH) (σm : MS), b.H = H ∧ Sim K b h ∧ SlM K b σm σ ∧ Post K rEqB (fun c d H' => Wx c d σ H') b Q (m σm h)
def tSimA (K : PySem.W.Frag) (Wx : WX) (m : AM) : TA := fun σ H Q => ∃ (b : Bs) (h : MH) (σm : MS), b.H = H ∧ Sim K b h ∧ SlM K b σm σ ∧ Post K (Rls K) (fun c d H' => Wx c d σ H') b Q (m σm h)
def PostS (K : PySem.W.Frag) (Wx : WX) (b : Bs) (D : Ends) : RS → Prop
  | .nx σm h => ∀ c σ, Ext K b c → Sim K c h → SlM K c σm σ → D.nx σ c.H
  | .bk σm h => ∀ c σ, Ext K b c → Sim K c h → SlM K c σm σ → D.bk σ c.H
  | .ct σm h => ∀ c σ, Ext K b c → Sim K c h → SlM K c σm σ → D.ct σ c.H
  | .rt w h => ∀ c v, Ext K b c → Sim K c h → Rl K c w v → D.rt v c.H
  | .exc x σm h => ∀ c σ d, Ext K b c → Sim K c h → SlM K c σm σ → XfR K c x.fs d → Wx (x.c.v K) d σ c.H
  | .stuck => False
def tSimS (K : PySem.W.Frag) (Wx : WX) (m : SM) : TS := fun D σ H => ∃ (b : Bs) (h : MH) (σm : MS), b.H = H ∧ Sim K b h ∧ SlM K b σm σ ∧ PostS K Wx b D (m σm h)
theorem PostS.ext {K : PySem.W.Frag} {Wx : WX} {b c : Bs} {D : Ends} {r : RS} (h : PostS K Wx b D r) (x : Ext K b c) : PostS K Wx c D r := by
  cases r with
  | nx _ _ => exact fun d σ y => h d σ (x.trans y)
  | bk _ _ => exact fun d σ y => h d σ (x.trans y)
  | ct _ _ => exact fun d σ y => h d σ (x.trans y)
  | rt _ _ => exact fun d σ y => h d σ (x.trans y)
  | exc _ _ _ => exact fun d σ da y => h d σ da (x.trans y)
  | stuck => exact h
/-- a value's part within a statement -/
theorem PostS.st {α β : Type} {K : PySem.W.Frag} {rel : Bs → α → β → Prop} {Wx : WX} {b : Bs} {D : Ends} {σ : L2.St} {σm : MS} {r : R α} {k : α → MH → RS} (hσ : SlM K b σm σ) (h : PostS K Wx b D (r.st σm k)) :
    Post K rel (fun c d H' => Wx c d σ H') b (fun v H1 => ∃ c w g, c.H = H1 ∧ Ext K b c ∧ Sim K c g ∧ rel c w v ∧ PostS K Wx c D (k w g)) r := by
  cases r with
  | ok w g => exact fun c v x s r => ⟨c, w, g, rfl, x, s, r, PostS.ext (r := k w g) h x⟩
  | exc e g => exact fun c d x s => h c σ d x s (hσ.ext x)
  | stuck => exact h

/-- the mirror's part m stands for the expression e (test; arguments; statement; statements) -/
structure SE (X : Cx) (Wx : WX) (e : Expr) (m : EM) : Prop where
  pe : PE X e (tSim X.K Wx m)
structure STt (X : Cx) (Wx : WX) (e : Expr) (m : TM) : Prop where
  pt : PT X e (tSimT X.K Wx m)
structure STw (X : Cx) (Wx : WX) (e : Expr) (m : TM) : Prop where
  pw : PW X e (tSimT X.K Wx m)
structure SA (X : Cx) (Wx : WX) (es : List Expr) (m : AM) : Prop where
  pa : PA X es (tSimA X.K Wx m)
structure SS (X : Cx) (Wx : WX) (st : Stmt) (m : SM) : Prop where
  ps : PS X st (tSimS X.K Wx m)
structure SSs (X : Cx) (Wx : WX) (sts : List Stmt) (m : SM) : Prop where
  ps : PSs X sts (tSimS X.K Wx m)

theorem pe_imp {X : Cx} {e : Expr} {t u : TE} (h : PE X e t) (m : ∀ σ H Q, u σ H Q → t σ H Q) : PE X e u := ⟨fun pins s σ H Q I q => h.run pins s σ H Q I (m _ _ _ q)⟩
theorem pt_imp {X : Cx} {e : Expr} {t u : TT} (h : PT X e t) (m : ∀ σ H Q, u σ H Q → t σ H Q) : PT X e u := ⟨fun pins s σ H Q I q => h.run pins s σ H Q I (m _ _ _ q)⟩
theorem pw_imp {X : Cx} {e : Expr} {t u : TT} (h : PW X e t) (m : ∀ σ H Q, u σ H Q → t σ H Q) : PW X e u := ⟨fun wh pins s σ H Q I q => h.run wh pins s σ H Q I (m _ _ _ q)⟩
theorem pa_imp {X : Cx} {e : List Expr} {t u : TA} (h : PA X e t) (m : ∀ σ H Q, u σ H Q → t σ H Q) : PA X e u := ⟨fun pos pins s σ H Q I q => h.run pos pins s σ H Q I (m _ _ _ q)⟩
theorem ps_imp {X : Cx} {e : Stmt} {t u : TS} (h : PS X e t) (m : ∀ D σ H, u D σ H → t D σ H) : PS X e u := ⟨fun pins s σ H D I q => h.run pins s σ H D I (m _ _ _ q)⟩
theorem pss_imp {X : Cx} {e : List Stmt} {t u : TS} (h : PSs X e t) (m : ∀ D σ H, u D σ H → t D σ H) : PSs X e u := ⟨fun pins s σ H D I q => h.run pins s σ H D I (m _ _ _ q)⟩

section
variable {X : Cx} {Wx : WX} {pos : Pos}
/-! ### names and constants -/
def eVar (i : Nat) : EM := fun σ h => match σ[i]? with
  | some (some w) => .ok w h
  | _ => .stuck
def eC (w : W) : EM := fun _ h => .ok w h
theorem se_var {i : Nat} {x : Str} (hp : PE X (.Name x pos) (tVar i)) : SE X Wx (.Name x pos) (eVar i) := ⟨pe_imp hp fun σ H Q ⟨b, h, σm, e, S, s, q⟩ => by
  subst e
  unfold eVar at q
  split at q
  · rename_i w hw
    obtain ⟨v, hv, r⟩ := s.at_ _ _ hw
    exact ⟨v, hv, q b v .refl S r⟩
  · exact q.elim⟩
theorem se_c {e : Expr} {w : W} {v : V} (hr : ∀ b, Rl X.K b w v) (h : PE X e (tC v)) : SE X Wx e (eC w) := ⟨pe_imp h fun σ H Q ⟨b, h, σm, e, S, s, q⟩ => by
  subst e
  exact q b v .refl S (hr b)⟩
theorem se_int {i j} : SE X Wx (.Constant (.int i) j pos) (eC (.int i)) := se_c (fun _ => .int i) pe_int
theorem se_bl {i j} : SE X Wx (.Constant (.bool i) j pos) (eC (.bl i)) := se_c (fun _ => .bl i) pe_bl
theorem se_non {j} : SE X Wx (.Constant .none j pos) (eC .non) := se_c (fun _ => .non) pe_non
theorem se_str {x j} : SE X Wx (.Constant (.str x) j pos) (eC (.str x)) := se_c (fun _ => .str x) pe_str
/-! ### values through operations -/
/-- an operation on two values -/
structure OpS (X : Cx) (Wx : WX) (f : Value → Value → Sem Value) (m : W → W → MH → R W) : Prop where
  run : ∀ (pins : List (Addr × Obj)) (s : Shared) (σ : L2.St) (b : Bs) (h : MH) (x y : W) (x' y' : V) (v u : Value) (Q : VK), Inv X pins σ b.H s → Sim X.K b h → Rl X.K b x x' → Rl X.K b y y' → RelV x' v → RelV y' u →
    Post X.K (Rl X.K) (fun c d H' => Wx c d σ H') b Q (m x y h) → wpAny (model X.prog X.w) X.A (f v u) (EP X pins σ Q) X.xe s
def e1 (f : W → MH → R W) (a : EM) : EM := fun σ h => (a σ h).bind f
def e2 (f : W → W → MH → R W) (a c : EM) : EM := fun σ h => (a σ h).bind fun x h1 => (c σ h1).bind fun y h2 => f x y h2
variable {a c e : Expr} {ma mc me : EM}
theorem SE.run (S : SE X Wx e me) {pins : List (Addr × Obj)} {s : Shared} {σ : L2.St} {b : Bs} {h : MH} {σm : MS} {Q : VK} (I : Inv X pins σ b.H s) (M : Sim X.K b h) (l : SlM X.K b σm σ) (q : Post X.K (Rl X.K) (fun c d H' => Wx c d σ H') b Q (me σm h)) :
    wpAny (model X.prog X.w) X.A (eval e X.env) (EP X pins σ Q) X.xe s := S.pe.run pins s σ b.H Q I ⟨b, h, σm, rfl, M, l, q⟩
theorem e2_run {f : Value → Value → Sem Value} {m : W → W → MH → R W} (ho : OpS X Wx f m) (ha : SE X Wx a ma) (hc : SE X Wx c mc) {pins : List (Addr × Obj)} {s : Shared} {σ : L2.St} {H : Hp} {Q : VK} (I : Inv X pins σ H s) (q : tSim X.K Wx (e2 m ma mc) σ H Q) :
    wpAny (model X.prog X.w) X.A (eval a X.env) (fun v s₁ => wpAny (model X.prog X.w) X.A (eval c X.env) (fun u s₂ => wpAny (model X.prog X.w) X.A (f v u) (EP X pins σ Q) X.xe s₂) X.xe s₁) X.xe s := by
  obtain ⟨b, h, σm, rfl, S, l, q⟩ := q
  refine thn (ha.run I S l (Post.bind q)) fun v s1 ⟨x', H1, I1, r1, c1, x, h1, e1, E1, S1, l1, q1⟩ => ?_
  subst e1
  refine thn (hc.run I1 S1 (l.ext E1) (Post.bind q1)) fun u s2 ⟨y', H2, I2, r2, c2, y, h2, e2, E2, S2, l2, q2⟩ => ?_
  subst e2
  exact ho.run pins s2 σ c2 h2 x y x' y' v u Q I2 S2 (l1.ext E2) l2 r1 r2 q2
theorem se_op {op : Operator} {m : W → W → MH → R W} (ho : OpS X Wx (binaryOp op) m) (ha : SE X Wx a ma) (hc : SE X Wx c mc) : SE X Wx (.BinOp a op c pos) (e2 m ma mc) :=
  ⟨⟨fun pins s σ H Q I q => wpAny_BinOp (e2_run ho ha hc I q)⟩⟩
theorem se_cmp {op : CmpOp} {m : W → W → MH → R W} (ho : OpS X Wx (compareOp op) m) (ha : SE X Wx a ma) (hc : SE X Wx c mc) (hm : behindInMarks op c = false) : SE X Wx (.Compare a [op] [c] pos) (e2 m ma mc) :=
  ⟨⟨fun pins s σ H Q I q => wpAny_Compare1 (e2_run ho ha hc I q) hm⟩⟩
/-- a rule of the layer, by what its mirror gives -/
theorem OpS.of {f : Value → Value → Sem Value} {r : R2} {m : W → W → MH → R W} (ho : OpR X f r)
    (k : ∀ (σ : L2.St) (b : Bs) (h : MH) (x y : W) (x' y' : V) (Q : VK), Sim X.K b h → Rl X.K b x x' → Rl X.K b y y' → Post X.K (Rl X.K) (fun c d H' => Wx c d σ H') b Q (m x y h) → r x' y' b.H Q) : OpS X Wx f m :=
  ⟨fun pins s σ b h x y x' y' v u Q I S r1 r2 rv ru q => ho pins s σ b.H x' y' v u Q I rv ru (k σ b h x y x' y' Q S r1 r2 q)⟩
end
end PM
/-! Sm2: truth, and, or, not, chains, arguments, displays, calls of built-ins. -/
noncomputable section
namespace PM
open PySem PySem.Spec L2
open PyProof.Rows hiding St
section
variable {K : PySem.W.Frag} {b : Bs} {h : MH}
/-- a list's items -/
def lstAt (h : MH) (i : Nat) : Option (List W) := match h[i]? with
  | some (.lst xs) => some xs
  | some (.ro xs) => some xs
  | _ => none
theorem Sim.list (S : Sim K b h) {i : Nat} {xs : List W} (e : lstAt h i = some xs) : ∃ vs, SqL K b.H (b.at_ i) vs ∧ Rls K b xs vs ∧ i < b.n := by
  unfold lstAt at e
  split at e
  · rename_i ys hi
    cases e
    obtain ⟨vs, h1, r⟩ := S.ob _ _ hi
    exact ⟨vs, .inl (.inl h1), r, S.lt hi⟩
  · rename_i ys hi
    cases e
    obtain ⟨vs, h1, r⟩ := S.ob _ _ hi
    refine ⟨vs, ?_, r, S.lt hi⟩
    rcases h1 with ⟨o, h1⟩ | h1
    · exact .inl (.inr ⟨o, h1⟩)
    · rcases h1 with (h1 | ⟨o, h1⟩) | h1
      · cases h1
      · cases h1
      · exact .inr h1
  · cases e
/-- a dict's pairs, as it may be read -/
def dctAt (h : MH) (i : Nat) : Option (List (Key × W)) := match h[i]? with
  | some (.dct kvs) => some kvs
  | some (.lck kvs) => some kvs
  | _ => none
theorem Sim.dic (S : Sim K b h) {i : Nat} {kvs : List (Key × W)} (e : dctAt h i = some kvs) : ∃ ps, Rd b.H (b.at_ i) (.dK ps) ∧ Rlk K b kvs ps ∧ i < b.n := by
  unfold dctAt at e
  split at e
  · rename_i ys hi
    cases e
    obtain ⟨ps, h1, r⟩ := S.ob _ _ hi
    exact ⟨ps, .inl h1, r, S.lt hi⟩
  · rename_i ys hi
    cases e
    obtain ⟨o, ps, h1, r⟩ := S.ob _ _ hi
    exact ⟨ps, .inr ⟨o, h1⟩, r, S.lt hi⟩
  · cases e
/-- the instance at i: its class and fields -/
def insAt (h : MH) (i : Nat) : Option (Str × List (Str × W)) := match h[i]? with
  | some (.ins C fs) => some (C, fs)
  | _ => none
theorem insAt_eq {h : MH} {i : Nat} {C : Str} {fs : List (Str × W)} (e : insAt h i = some (C, fs)) : h[i]? = some (.ins C fs) := by
  unfold insAt at e
  split at e
  · rename_i C' fs' q; cases e; exact q
  · cases e
theorem Sim.ins (S : Sim K b h) {i : Nat} {C : Str} {fs : List (Str × W)} (e : insAt h i = some (C, fs)) : ∃ dx ps, b.H (b.at_ i) = some (.ins (He.ga K C) dx ps) ∧ Rlk K b fs ps :=
  S.ob i _ (insAt_eq e)
/-- lists, dicts, instances: in the heap, or by value -/
def lstW (h : MH) : W → Option (List W)
  | .ref i => lstAt h i
  | .vl xs => some xs
  | _ => none
def dctW (h : MH) : W → Option (List (Key × W))
  | .ref i => dctAt h i
  | .vd kvs => some kvs
  | _ => none
def insW (h : MH) : W → Option (Str × List (Str × W))
  | .ref i => insAt h i
  | .vi C fs => some (C, fs)
  | _ => none
@[simp] theorem lstW_ref (h : MH) (i : Nat) : lstW h (.ref i) = lstAt h i := rfl
@[simp] theorem lstW_vl (h : MH) (xs : List W) : lstW h (.vl xs) = some xs := rfl
@[simp] theorem lstW_vd (h : MH) (xs : List (Key × W)) : lstW h (.vd xs) = none := rfl
@[simp] theorem lstW_vi (h : MH) (C : Str) (fs : List (Str × W)) : lstW h (.vi C fs) = none := rfl
@[simp] theorem dctW_ref (h : MH) (i : Nat) : dctW h (.ref i) = dctAt h i := rfl
@[simp] theorem dctW_vd (h : MH) (xs : List (Key × W)) : dctW h (.vd xs) = some xs := rfl
@[simp] theorem dctW_vl (h : MH) (xs : List W) : dctW h (.vl xs) = none := rfl
@[simp] theorem insW_ref (h : MH) (i : Nat) : insW h (.ref i) = insAt h i := rfl
@[simp] theorem insW_vi (h : MH) (C : Str) (fs : List (Str × W)) : insW h (.vi C fs) = some (C, fs) := rfl
theorem Sim.zl (S : Sim K b h) {a : Addr} {vs : List V} (z : b.Z a = some (.lst vs)) : SqL K b.H a vs := by
  exact .inl (.inl (show b.H a = some (.lst vs) from S.zh a _ z))
theorem Sim.listW (S : Sim K b h) {w : W} {v : V} {xs : List W} (r : Rl K b w v) (e : lstW h w = some xs) : ∃ a vs, v = .ref a ∧ SqL K b.H a vs ∧ Rls K b xs vs := by
  cases r with
  | ref i hi =>
    obtain ⟨vs, h1, r, _⟩ := S.list (show lstAt h i = some xs from e)
    exact ⟨_, vs, rfl, h1, r⟩
  | vl a ws vs z r =>
    cases (show some ws = some xs from e)
    exact ⟨a, vs, rfl, S.zl z, r⟩
  | _ => cases e
theorem Sim.dicW (S : Sim K b h) {w : W} {v : V} {kvs : List (Key × W)} (r : Rl K b w v) (e : dctW h w = some kvs) : ∃ a ps, v = .ref a ∧ Rd b.H a (.dK ps) ∧ Rlk K b kvs ps := by
  cases r with
  | ref i hi =>
    obtain ⟨ps, h1, r, _⟩ := S.dic (show dctAt h i = some kvs from e)
    exact ⟨_, ps, rfl, h1, r⟩
  | vd a ks ps z e1 r =>
    cases (show some ks = some kvs from e)
    exact ⟨a, ps, rfl, S.zh a _ z, e1, r⟩
  | _ => cases e
theorem Sim.insW (S : Sim K b h) {w : W} {v : V} {C : Str} {fs : List (Str × W)} (r : Rl K b w v) (e : insW h w = some (C, fs)) : ∃ a dx ps, v = .ref a ∧ b.H a = some (.ins (He.ga K C) dx ps) ∧ Rlk K b fs ps := by
  cases r with
  | ref i hi =>
    obtain ⟨dx, ps, h1, r⟩ := S.ins (show insAt h i = some (C, fs) from e)
    exact ⟨_, dx, ps, rfl, h1, r⟩
  | vi a C' fs' dx ps z e1 r =>
    cases (show some (C', fs') = some (C, fs) from e)
    exact ⟨a, dx, ps, rfl, S.zh a _ z, e1, r⟩
  | _ => cases e
/-- a list that may be written -/
def mutAt (h : MH) (i : Nat) : Option (List W) := match h[i]? with
  | some (.lst xs) => some xs
  | _ => none
theorem mutAt_eq {h : MH} {i : Nat} {xs : List W} (e : mutAt h i = some xs) : h[i]? = some (.lst xs) := by
  unfold mutAt at e
  split at e
  · rename_i ys hi
    cases e; exact hi
  · cases e
theorem Sim.mut (S : Sim K b h) {i : Nat} {xs : List W} (e : mutAt h i = some xs) : ∃ vs, b.H (b.at_ i) = some (.lst vs) ∧ Rls K b xs vs ∧ i < b.n := by
  have q := mutAt_eq e
  obtain ⟨vs, h1, r⟩ := S.ob _ _ q
  exact ⟨vs, h1, r, S.lt q⟩
theorem Sim.dict (S : Sim K b h) {i : Nat} {kvs : List (Key × W)} (e : h[i]? = some (.dct kvs)) : ∃ ps, b.H (b.at_ i) = some (.dK ps) ∧ Rlk K b kvs ps ∧ i < b.n := by
  obtain ⟨vs, h1, r⟩ := S.ob _ _ e
  exact ⟨vs, h1, r, S.lt e⟩
theorem Rls.isEmpty {ws : List W} {vs : List V} (r : Rls K b ws vs) : vs.isEmpty = ws.isEmpty := by cases r <;> rfl
/-- a list that is no one's else -/
def mlW (h : MH) : W → Option (List W)
  | .ref i => mutAt h i
  | .vl xs => some xs
  | _ => none
@[simp] theorem mlW_ref (h : MH) (i : Nat) : mlW h (.ref i) = mutAt h i := rfl
@[simp] theorem mlW_vl (h : MH) (xs : List W) : mlW h (.vl xs) = some xs := rfl
theorem Sim.mlW (S : Sim K b h) {w : W} {v : V} {xs : List W} (r : Rl K b w v) (e : PM.mlW h w = some xs) : ∃ a vs, v = .ref a ∧ b.H a = some (.lst vs) ∧ Rls K b xs vs := by
  cases r with
  | ref i hi =>
    obtain ⟨vs, h1, r, _⟩ := S.mut (show mutAt h i = some xs from e)
    exact ⟨_, vs, rfl, h1, r⟩
  | vl a ws vs z r =>
    cases (show some ws = some xs from e)
    exact ⟨a, vs, rfl, S.zh a _ z, r⟩
  | _ => cases e
/-- a list is written -/
theorem Sim.putL (S : Sim K b h) {i : Nat} {xs ys : List W} {vs : List V} (e : mutAt h i = some xs) (r : Rls K b ys vs) : Ext K b (b.put i (.lst vs)) ∧ Sim K (b.put i (.lst vs)) (h.set i (.lst ys)) := by
  have q := mutAt_eq e
  have x : Ext K b (b.put i (.lst vs)) := Ext.put (S.ob _ _ q) rfl
  exact ⟨x, S.put q rfl rfl ⟨vs, upd_same, r.ext x⟩⟩
/-- a new list -/
theorem Sim.pushL (S : Sim K b h) {p : Addr} {ys : List W} {vs : List V} (hp : b.H p = none) (r : Rls K b ys vs) : Ext K b (b.push p (.lst vs)) ∧ Sim K (b.push p (.lst vs)) (h ++ [.lst ys]) ∧ Rl K (b.push p (.lst vs)) (.ref h.length) (.ref p) := by
  have x : Ext K b (b.push p (.lst vs)) := Ext.push hp
  refine ⟨x, S.push hp ⟨vs, ?_, r.ext x⟩, ?_⟩
  · rw [Bs.push_at]; exact upd_same
  · have q := Rl.ref (K := K) (b := b.push p (.lst vs)) b.n (Nat.lt_succ_self _)
    rw [Bs.push_at, S.len] at q
    exact q
end
/-- an answer where the heap stays -/
theorem Post.here {α β : Type} {K : PySem.W.Frag} {rel : Bs → α → β → Prop} {We : Value → Option Addr → Hp → Prop} {b : Bs} {Q : β → Hp → Prop} {w : α} {v : β} {h : MH} (q : Post K rel We b Q (.ok w h)) (S : Sim K b h) (r : rel b w v) : Q v b.H := q b v .refl S r

theorem bind_assoc' {α β γ : Type} (r : R α) (f : α → MH → R β) (g : β → MH → R γ) : (r.bind f).bind g = r.bind fun a h => (f a h).bind g := by cases r <;> rfl
theorem ite_bind' {α β : Type} {c : Prop} [Decidable c] (r s : R α) (g : α → MH → R β) : (if c then r else s).bind g = if c then r.bind g else s.bind g := by split <;> rfl
/-! ### truth -/
def truW (w : W) (h : MH) : R Bool := match w with
  | .non => .ok false h
  | .bl k => .ok k h
  | .int i => .ok (i != 0) h
  | .str x => if x.length ≤ sizeLine then .ok ((x.length : Int) != 0) h else .stuck
  | .tup xs => .ok (!xs.isEmpty) h
  | .ref i => match lstAt h i with
    | some xs => .ok (!xs.isEmpty) h
    | none => match h[i]? with
      | some (.dct kvs) => .ok (!kvs.isEmpty) h
      | _ => .stuck
  | .vl xs => .ok (!xs.isEmpty) h
  | _ => .stuck
theorem truV_of {K : PySem.W.Frag} {We : Value → Option Addr → Hp → Prop} {b : Bs} {h : MH} {w : W} {v : V} {Q : Bool → Hp → Prop} (S : Sim K b h) (r : Rl K b w v) (q : Post K rEqB We b Q (truW w h)) : ∃ k, TruV K v b.H k ∧ Q k b.H := by
  cases r with
  | non => exact ⟨false, rfl, q.here S rfl⟩
  | bl k => exact ⟨k, rfl, q.here S rfl⟩
  | int i => exact ⟨i != 0, rfl, q.here S rfl⟩
  | str x =>
    unfold truW at q
    dsimp only at q
    split at q
    · rename_i hx
      exact ⟨_, ⟨hx, rfl⟩, q.here S rfl⟩
    · exact q.elim
  | tup a ws vs hs r =>
    exact ⟨!ws.isEmpty, .inr (.inl ⟨vs, hs, by rw [r.isEmpty]⟩), q.here S rfl⟩
  | ref i hi =>
    unfold truW at q
    dsimp only at q
    split at q
    · rename_i xs hx
      obtain ⟨vs, h1, r, _⟩ := S.list hx
      exact ⟨!xs.isEmpty, .inl ⟨vs, h1, by rw [r.isEmpty]⟩, q.here S rfl⟩
    · split at q
      · rename_i kvs hk
        obtain ⟨ps, h1, r, _⟩ := S.dict hk
        refine ⟨!kvs.isEmpty, .inr (.inr ⟨ps, h1, ?_⟩), q.here S rfl⟩
        have := congrArg List.isEmpty r.1
        simpa using this.symm
      · exact q.elim
  | vl a ws vs z r =>
    exact ⟨!ws.isEmpty, .inl ⟨vs, S.zl z, by rw [r.isEmpty]⟩, q.here S rfl⟩
  | _ => exact q.elim
section
variable {X : Cx} {Wx : WX} {pos : Pos} {a c e : Expr} {ma mc me : EM} {rest : List Expr}
theorem tru_run {pins : List (Addr × Obj)} {s : Shared} {σ : L2.St} {b : Bs} {h : MH} {w : W} {v : V} {u : Value} {Q : Bool → Hp → Prop} {We : Value → Option Addr → Hp → Prop} (I : Inv X pins σ b.H s) (S : Sim X.K b h) (r : Rl X.K b w v) (rv : RelV v u) (q : Post X.K rEqB We b Q (truW w h)) :
    wpAny (model X.prog X.w) X.A (truthy u) (TP X pins σ Q) X.xe s := tru_ok pins s σ b.H v u Q I rv (truV_of S r q)
def tTru (m : EM) : TM := fun σ h => (m σ h).bind truW
/-- a test that is its value's truth -/
theorem st_tru (ha : SE X Wx a ma) (he : ∀ whole, isTrue a X.env whole = (do let v ← whole; standAt a.pos; holding [v] (truthy v)) := by intro _; rfl) : STt X Wx a (tTru ma) := by
  refine ⟨⟨fun pins s σ H Q I q => ?_⟩⟩
  obtain ⟨b, h, σm, rfl, S, l, q⟩ := q
  refine isTrue_plain (thn (ha.run I S l (Post.bind q)) fun v s1 ⟨x, H1, I1, r1, c1, w, h1, e1, E1, S1, l1, q1⟩ => ?_) (he _)
  subst e1
  exact tru_run I1 S1 l1 r1 q1
/-- a comparison as a test -/
theorem st_cmp {op : CmpOp} {m : W → W → MH → R W} (ho : OpS X Wx (compareOp op) m) (ha : SE X Wx a ma) (hc : SE X Wx c mc) (hm : behindInMarks op c = false) : STt X Wx (.Compare a [op] [c] pos) (tTru (e2 m ma mc)) := by
  refine ⟨⟨fun pins s σ H Q I q => ?_⟩⟩
  obtain ⟨b, h, σm, rfl, S, l, q⟩ := q
  refine wpAny_isTrue_Compare1 (thn (e2_run ho ha hc I ⟨b, h, σm, rfl, S, l, Post.bind (rel := Rl X.K) q⟩) fun v s1 q1 => thn q1 fun u s2 q2 => thn q2 fun z s3 ⟨x, H1, I1, r1, c1, w, h1, e1, E1, S1, l1, q1⟩ => ?_) hm
  subst e1
  exact tru_run I1 S1 l1 r1 q1
def tNotM (m : TM) : TM := fun σ h => (m σ h).bind fun k h1 => .ok (!k) h1
theorem tSimT_bind {We : WX} {m : TM} {k : Bool → MH → R Bool} {σ : L2.St} {H : Hp} {Q : Bool → Hp → Prop} (q : tSimT X.K We (fun σ h => (m σ h).bind k) σ H Q) :
    tSimT X.K We m σ H (fun v H1 => ∃ (c : Bs) (g : MH), c.H = H1 ∧ Sim X.K c g ∧ Post X.K rEqB (fun c d H' => We c d σ H') c Q (k v g)) := by
  obtain ⟨b, h, σm, e, S, l, q⟩ := q
  refine ⟨b, h, σm, e, S, l, (Post.bind q).mono fun v H1 ⟨c, w, g, e, x, s, r, p⟩ => ?_⟩
  subst r
  exact ⟨c, g, e, s, p⟩
theorem st_not {m : TM} (ha : STt X Wx a m) : STt X Wx (.UnaryOp .Not a pos) (tNotM m) := by
  refine ⟨pt_imp (pt_not ha.pt) fun σ H Q q => ?_⟩
  obtain ⟨b, h, σm, e, S, l, q⟩ := tSimT_bind q
  exact ⟨b, h, σm, e, S, l, q.mono fun v H1 ⟨c, g, e, s, p⟩ => by subst e; exact p.here s rfl⟩
def tAndM (m n : TM) : TM := fun σ h => (m σ h).bind fun k h1 => if k = true then n σ h1 else .ok false h1
def tOrM (m n : TM) : TM := fun σ h => (m σ h).bind fun k h1 => if k = true then .ok true h1 else n σ h1
variable {m n : TM}
theorem st_w (h : STw X Wx a m) : STt X Wx a m := ⟨h.pw.pt⟩
theorem sw_and1 (ha : STt X Wx a m) : STw X Wx (.BoolOp .And [a] pos) m := ⟨pw_and1 ha.pt⟩
theorem sw_or1 (ha : STt X Wx a m) : STw X Wx (.BoolOp .Or [a] pos) m := ⟨pw_or1 ha.pt⟩
theorem sw_and (ha : STt X Wx a m) (hb : STw X Wx (.BoolOp .And (c :: rest) pos) n) : STw X Wx (.BoolOp .And (a :: c :: rest) pos) (tAndM m n) := by
  refine ⟨pw_imp (pw_and ha.pt hb.pw) fun σ H Q ⟨b, h, σm, e, S, l, q⟩ => ?_⟩
  refine ⟨b, h, σm, e, S, l, (Post.bind q).mono fun v H1 ⟨c, w, g, e, x, s, r, p⟩ => ?_⟩
  subst r; subst e
  cases w with
  | true => rw [if_pos rfl] at p ⊢; exact ⟨c, g, σm, rfl, s, l.ext x, p⟩
  | false => rw [if_neg Bool.false_ne_true] at p ⊢; exact p.here s rfl
theorem sw_or (ha : STt X Wx a m) (hb : STw X Wx (.BoolOp .Or (c :: rest) pos) n) : STw X Wx (.BoolOp .Or (a :: c :: rest) pos) (tOrM m n) := by
  refine ⟨pw_imp (pw_or ha.pt hb.pw) fun σ H Q ⟨b, h, σm, e, S, l, q⟩ => ?_⟩
  refine ⟨b, h, σm, e, S, l, (Post.bind q).mono fun v H1 ⟨c, w, g, e, x, s, r, p⟩ => ?_⟩
  subst r; subst e
  cases w with
  | true => rw [if_pos rfl] at p ⊢; exact p.here s rfl
  | false => rw [if_neg Bool.false_ne_true] at p ⊢; exact ⟨c, g, σm, rfl, s, l.ext x, p⟩
/-! ### as values -/
def eAnd (m n : EM) : EM := fun σ h => (m σ h).bind fun w h1 => (truW w h1).bind fun k h2 => if k = true then n σ h2 else .ok w h2
def eOr (m n : EM) : EM := fun σ h => (m σ h).bind fun w h1 => (truW w h1).bind fun k h2 => if k = true then .ok w h2 else n σ h2
def eNot (m : EM) : EM := fun σ h => (m σ h).bind fun w h1 => (truW w h1).bind fun k h2 => .ok (.bl (!k)) h2
theorem se_one {op} (ha : SE X Wx a ma) : SE X Wx (.BoolOp op [a] pos) ma := ⟨pe_one ha.pe⟩
theorem truW_heap {w : W} {h h' : MH} {k : Bool} (e : truW w h = .ok k h') : h' = h := by
  unfold truW at e
  repeat' split at e
  all_goals first | cases e; rfl | cases e
/-- truth within a binding -/
theorem tru_bind {K : PySem.W.Frag} {We : Value → Option Addr → Hp → Prop} {α β : Type} {rel : Bs → α → β → Prop} {b : Bs} {h : MH} {w : W} {v : V} {Q : β → Hp → Prop} {k : Bool → MH → R α} (S : Sim K b h) (r : Rl K b w v) (q : Post K rel We b Q ((truW w h).bind k)) :
    ∃ t, TruV K v b.H t ∧ truW w h = .ok t h ∧ Post K rel We b Q (k t h) := by
  have p : ∃ t, TruV K v b.H t ∧ (fun t (H : Hp) => truW w h = .ok t h) t b.H := truV_of (We := We) (Q := fun t (_ : Hp) => truW w h = .ok t h) S r (by
    cases e : truW w h with
    | ok t h' =>
      have := truW_heap e
      subst this
      intro c v _ _ r
      cases r; rfl
    | exc x g =>
      exfalso
      unfold truW at e
      repeat' split at e
      all_goals cases e
    | stuck => rw [e] at q; exact q)
  obtain ⟨t, ht, e⟩ := p
  have e' : truW w h = .ok t h := e
  rw [e'] at q
  exact ⟨t, ht, e', q⟩
theorem se_and (ha : SE X Wx a ma) (hb : SE X Wx (.BoolOp .And (c :: rest) pos) mc) : SE X Wx (.BoolOp .And (a :: c :: rest) pos) (eAnd ma mc) := by
  refine ⟨pe_imp (pe_andT ha.pe hb.pe) fun σ H Q ⟨b, h, σm, e, S, l, q⟩ => ?_⟩
  refine ⟨b, h, σm, e, S, l, (Post.bind q).mono fun v H1 ⟨c, w, g, e, x, s, r, p⟩ => ?_⟩
  subst e
  obtain ⟨t, ht, _, p⟩ := tru_bind s r p
  refine ⟨t, ht, ?_⟩
  cases t with
  | true => rw [if_pos rfl] at p ⊢; exact ⟨c, g, σm, rfl, s, l.ext x, p⟩
  | false => rw [if_neg Bool.false_ne_true] at p ⊢; exact p.here s r
theorem se_or (ha : SE X Wx a ma) (hb : SE X Wx (.BoolOp .Or (c :: rest) pos) mc) : SE X Wx (.BoolOp .Or (a :: c :: rest) pos) (eOr ma mc) := by
  refine ⟨pe_imp (pe_orT ha.pe hb.pe) fun σ H Q ⟨b, h, σm, e, S, l, q⟩ => ?_⟩
  refine ⟨b, h, σm, e, S, l, (Post.bind q).mono fun v H1 ⟨c, w, g, e, x, s, r, p⟩ => ?_⟩
  subst e
  obtain ⟨t, ht, _, p⟩ := tru_bind s r p
  refine ⟨t, ht, ?_⟩
  cases t with
  | true => rw [if_pos rfl] at p ⊢; exact p.here s r
  | false => rw [if_neg Bool.false_ne_true] at p ⊢; exact ⟨c, g, σm, rfl, s, l.ext x, p⟩
theorem se_not (ha : SE X Wx a ma) : SE X Wx (.UnaryOp .Not a pos) (eNot ma) := by
  refine ⟨pe_imp (pe_notT ha.pe) fun σ H Q ⟨b, h, σm, e, S, l, q⟩ => ?_⟩
  refine ⟨b, h, σm, e, S, l, (Post.bind q).mono fun v H1 ⟨c, w, g, e, x, s, r, p⟩ => ?_⟩
  subst e
  obtain ⟨t, ht, _, p⟩ := tru_bind s r p
  exact ⟨t, ht, p.here s (.bl _)⟩
def eIf (t : TM) (m n : EM) : EM := fun σ h => (t σ h).bind fun k h1 => if k = true then m σ h1 else n σ h1
theorem se_if {t : TM} {c' : Expr} (hc : STt X Wx c' t) (ha : SE X Wx a ma) (hb : SE X Wx c mc) : SE X Wx (.IfExp c' a c pos) (eIf t ma mc) := by
  refine ⟨pe_imp (pe_ifExp hc.pt ha.pe hb.pe) fun σ H Q ⟨b, h, σm, e, S, l, q⟩ => ?_⟩
  refine ⟨b, h, σm, e, S, l, (Post.bind q).mono fun v H1 ⟨c, w, g, e, x, s, r, p⟩ => ?_⟩
  subst e; subst r
  cases w with
  | true => rw [if_pos rfl] at p ⊢; exact ⟨c, g, σm, rfl, s, l.ext x, p⟩
  | false => rw [if_neg Bool.false_ne_true] at p ⊢; exact ⟨c, g, σm, rfl, s, l.ext x, p⟩
/-! ### a op b op' c -/
def eChain (m n : W → W → MH → R W) (x y z : EM) : EM := fun σ h => (x σ h).bind fun v h1 => (y σ h1).bind fun u h2 => (m v u h2).bind fun t h3 => (truW t h3).bind fun k h4 => if k = true then (z σ h4).bind fun o h5 => n u o h5 else .ok t h4
variable {d : Expr} {md : EM} {op op' : CmpOp} {f f' : W → W → MH → R W}
theorem chain_run (ho : OpS X Wx (compareOp op) f) (ho' : OpS X Wx (compareOp op') f') (ha : SE X Wx a ma) (hc : SE X Wx c mc) (hd : SE X Wx d md) {pins : List (Addr × Obj)} {s : Shared} {σ : L2.St} {H : Hp} {Q : VK} (I : Inv X pins σ H s) (q : tSim X.K Wx (eChain f f' ma mc md) σ H Q) :
    wpAny (model X.prog X.w) X.A (eval a X.env) (fun v s₁ => wpAny (model X.prog X.w) X.A (eval c X.env) (fun u s₂ => wpAny (model X.prog X.w) X.A (compareOp op v u) (fun t s₃ => wpAny (model X.prog X.w) X.A (truthy t) (fun k s₄ =>
      if k = true then wpAny (model X.prog X.w) X.A (eval d X.env) (fun o s₅ => wpAny (model X.prog X.w) X.A (compareOp op' u o) (EP X pins σ Q) X.xe s₅) X.xe s₄ else EP X pins σ Q t s₄) X.xe s₃) X.xe s₂) X.xe s₁) X.xe s := by
  obtain ⟨b, h, σm, rfl, S, l, q⟩ := q
  refine thn (ha.run I S l (Post.bind q)) fun v s1 ⟨x', H1, I1, r1, c1, x, h1, e1, E1, S1, l1, q1⟩ => ?_
  subst e1
  refine thn (hc.run I1 S1 (l.ext E1) (Post.bind q1)) fun u s2 ⟨y', H2, I2, r2, c2, y, h2, e2, E2, S2, l2, q2⟩ => ?_
  subst e2
  refine thn (ho.run pins s2 σ c2 h2 x y x' y' v u _ I2 S2 (l1.ext E2) l2 r1 r2 (Post.bind q2)) fun t s3 ⟨t', H3, I3, r3, c3, w, h3, e3, E3, S3, l3, q3⟩ => ?_
  subst e3
  obtain ⟨k, hk, _, q3⟩ := tru_bind S3 l3 q3
  refine thn (tru_ok pins s3 σ c3.H t' t (fun k' H' => k' = k ∧ H' = c3.H) I3 r3 ⟨k, hk, rfl, rfl⟩) fun k' s4 ⟨H4, I4, e4, e5⟩ => ?_
  subst e4; subst e5
  cases k' with
  | false =>
    rw [if_neg Bool.false_ne_true] at q3 ⊢
    exact ⟨t', c3.H, I4, r3, q3.here S3 l3⟩
  | true =>
    rw [if_pos rfl] at q3 ⊢
    refine thn (hd.run I4 S3 (((l.ext E1).ext E2).ext E3) (Post.bind q3)) fun o s5 ⟨z', H5, I5, r5, c5, z, h5, e5, E5, S5, l5, q5⟩ => ?_
    subst e5
    exact ho'.run pins s5 σ c5 h5 y z y' z' u o Q I5 S5 ((l2.ext E3).ext E5) l5 r2 r5 q5
theorem se_chain (ho : OpS X Wx (compareOp op) f) (ho' : OpS X Wx (compareOp op') f') (ha : SE X Wx a ma) (hc : SE X Wx c mc) (hd : SE X Wx d md) (hm : lastMarks [op, op'] [c, d] = false := by with_unfolding_all rfl) :
    SE X Wx (.Compare a [op, op'] [c, d] pos) (eChain f f' ma mc md) := by
  refine ⟨⟨fun pins s σ H Q I q => ?_⟩⟩
  refine Compare_chain (thn (chain_run ho ho' ha hc hd I q) fun v s1 h1 => chain_link (thn h1 fun u s2 h2 => thn h2 fun t s3 h3 => thn h3 fun k s4 h4 => ?_)) hm
  cases k with
  | false => exact ite_ff h4
  | true => exact ite_tt (chain_last h4)
theorem st_chain (ho : OpS X Wx (compareOp op) f) (ho' : OpS X Wx (compareOp op') f') (ha : SE X Wx a ma) (hc : SE X Wx c mc) (hd : SE X Wx d md) (hm : lastMarks [op, op'] [c, d] = false := by with_unfolding_all rfl) :
    STt X Wx (.Compare a [op, op'] [c, d] pos) (tTru (eChain f f' ma mc md)) := by
  refine ⟨⟨fun pins s σ H Q I q => ?_⟩⟩
  obtain ⟨b, h, σm, rfl, S, l, q⟩ := q
  have q : Post X.K rEqB (fun c d H' => Wx c d σ H') b Q ((ma σm h).bind fun v h1 => (mc σm h1).bind fun u h2 => (f v u h2).bind fun t h3 => (truW t h3).bind fun k h4 => if k = true then (md σm h4).bind fun o h5 => (f' u o h5).bind truW else truW t h4) := by
    unfold tTru eChain at q
    simpa only [bind_assoc', ite_bind', R.bind_ok] using q
  refine isTrue_chain (thn (ha.run I S l (Post.bind q)) fun v s1 ⟨x', H1, I1, r1, c1, x, h1, e1, E1, S1, l1, q1⟩ => ?_) hm
  subst e1
  refine test_link (thn (hc.run I1 S1 (l.ext E1) (Post.bind q1)) fun u s2 ⟨y', H2, I2, r2, c2, y, h2, e2, E2, S2, l2, q2⟩ => ?_)
  subst e2
  refine thn (ho.run pins s2 σ c2 h2 x y x' y' v u _ I2 S2 (l1.ext E2) l2 r1 r2 (Post.bind q2)) fun t s3 ⟨t', H3, I3, r3, c3, w, h3, e3, E3, S3, l3, q3⟩ => ?_
  subst e3
  obtain ⟨k, hk, ek, q3⟩ := tru_bind S3 l3 q3
  refine thn (tru_ok pins s3 σ c3.H t' t (fun k' H' => k' = k ∧ H' = c3.H) I3 r3 ⟨k, hk, rfl, rfl⟩) fun k' s4 ⟨H4, I4, e4, e5⟩ => ?_
  subst e4; subst e5
  cases k' with
  | false =>
    rw [if_neg Bool.false_ne_true, ek] at q3
    exact ite_ff ⟨c3.H, I4, q3.here S3 rfl⟩
  | true =>
    rw [if_pos rfl] at q3
    refine ite_tt (test_last (thn (hd.run I4 S3 (((l.ext E1).ext E2).ext E3) (Post.bind q3)) fun o s5 ⟨z', H5, I5, r5, c5, z, h5, e5, E5, S5, l5, q5⟩ => ?_))
    subst e5
    refine thn (ho'.run pins s5 σ c5 h5 y z y' z' u o _ I5 S5 ((l2.ext E3).ext E5) l5 r2 r5 (Post.bind q5)) fun p s6 ⟨p', H6, I6, r6, c6, w6, h6, e6, E6, S6, l6, q6⟩ => ?_
    subst e6
    exact tru_run I6 S6 l6 r6 q6
end
end PM
/-! Sm3: arguments, displays, calls of built-ins; statements; targets, loops, comprehensions. -/
noncomputable section
namespace PM
open PySem PySem.Spec L2
open PyProof.Rows hiding St
section
variable {K : PySem.W.Frag} {b : Bs} {h : MH}
/-- something that the mirror has no number for is laid at p -/
def Bs.also (b : Bs) (p : Addr) (o : HO) : Bs := ⟨b.at_, b.n, upd b.H p o, b.Z⟩
theorem Ext.also {p : Addr} {o : HO} (hp : b.H p = none) : Ext K b (b.also p o) :=
  ⟨Nat.le_refl _, fun _ _ => rfl, fun a xs h => sqT_upd h fun q e => (by rw [hp] at e; cases e), fun a o' u h => (upd_ne (ne_of_none h hp)).trans h, fun _ _ h => h⟩
theorem Sim.also (S : Sim K b h) {p : Addr} {o : HO} (hp : b.H p = none) : Sim K (b.also p o) h := by
  refine ⟨S.len, fun i u e => (S.ob i u e).keep (Ext.also hp) (S.lt e) fun q _ hq => ?_, S.inj, fun a u e => zok_new (S.zh a u e) hp, S.zd⟩
  show upd b.H p o _ = _
  rw [upd_ne (ne_of_none hq hp)]
  exact hq
/-- a tuple is made -/
theorem Post.tup {We : Value → Option Addr → Hp → Prop} {Q : VK} {ws : List W} {vs : List V} (S : Sim K b h) (r : Rls K b ws vs) (q : Post K (Rl K) We b Q (.ok (.tup ws) h)) {p : Addr} (hp : b.H p = none) : Q (.ref p) (upd b.H p (.tup vs)) :=
  q (b.also p (.tup vs)) (.ref p) (Ext.also hp) (S.also hp) (.tup p ws vs (.inl (.inl upd_same)) (r.ext (Ext.also hp)))
theorem Post.lst {We : Value → Option Addr → Hp → Prop} {Q : VK} {ws : List W} {vs : List V} (S : Sim K b h) (r : Rls K b ws vs) (q : Post K (Rl K) We b Q (.ok (.ref h.length) (h ++ [.lst ws]))) {p : Addr} (hp : b.H p = none) : Q (.ref p) (upd b.H p (.lst vs)) := by
  obtain ⟨x, S', r'⟩ := S.pushL hp r
  exact q (b.push p (.lst vs)) (.ref p) x S' r'
end

section
variable {X : Cx} {Wx : WX} {pos : Pos} {a c e : Expr} {ma mc me : EM} {es : List Expr} {n : AM}
/-! ### arguments, displays -/
def aNil : AM := fun _ h => .ok [] h
def aCons (m : EM) (n : AM) : AM := fun σ h => (m σ h).bind fun w h1 => (n σ h1).bind fun ws h2 => .ok (w :: ws) h2
theorem sa_nil : SA X Wx [] aNil := ⟨pa_imp pa_nil fun σ H Q ⟨b, h, σm, e, S, l, q⟩ => by subst e; exact q.here S .nil⟩
theorem sa_cons (ha : SE X Wx e me) (hr : SA X Wx es n) (hs : starEach (e :: es) X.env = (false, eval e X.env) :: starEach es X.env := by rfl) : SA X Wx (e :: es) (aCons me n) := by
  refine ⟨pa_imp (pa_cons ha.pe hr.pa hs) fun σ H Q ⟨b, h, σm, e, S, l, q⟩ => ?_⟩
  refine ⟨b, h, σm, e, S, l, (Post.bind q).mono fun v H1 ⟨c, w, g, e, x, s, r, p⟩ => ?_⟩
  refine ⟨c, g, σm, e, s, l.ext x, (Post.bind p).mono fun vs H2 ⟨c2, ws, g2, e2, x2, s2, r2, p2⟩ => ?_⟩
  subst e2
  exact p2.here s2 (.cons (r.ext x2) r2)
theorem SA.run {es : List Expr} {n : AM} (S : SA X Wx es n) (ps : Pos) {pins : List (Addr × Obj)} {s : Shared} {σ : L2.St} {b : Bs} {h : MH} {σm : MS} {Q : List V → Hp → Prop} (I : Inv X pins σ b.H s) (M : Sim X.K b h) (l : SlM X.K b σm σ) (q : Post X.K (Rls X.K) (fun c d H' => Wx c d σ H') b Q (n σm h)) :
    wpAny (model X.prog X.w) X.A (spliced (backTo ps (starEach es X.env))) (AP X pins σ Q) X.xe s := S.pa.run ps pins s σ b.H Q I ⟨b, h, σm, rfl, M, l, q⟩
def eTup (n : AM) : EM := fun σ h => (n σ h).bind fun ws h1 => if ws.length ≤ sizeLine then .ok (.tup ws) h1 else .stuck
def eLst (n : AM) : EM := fun σ h => (n σ h).bind fun ws h1 => if ws.length ≤ sizeLine then .ok (.ref h1.length) (h1 ++ [.lst ws]) else .stuck
theorem se_tup {x1} (ha : SA X Wx es n) : SE X Wx (.Tuple es x1 pos) (eTup n) := by
  refine ⟨pe_imp (pe_tup ha.pa) fun σ H Q ⟨b, h, σm, e, S, l, q⟩ => ?_⟩
  refine ⟨b, h, σm, e, S, l, (Post.bind q).mono fun vs H1 ⟨c, ws, g, e, x, s, r, p⟩ => ?_⟩
  subst e
  split at p
  · rename_i hz
    exact ⟨by rw [← r.length]; exact hz, fun a ha => Post.tup s r p ha⟩
  · exact p.elim
theorem se_lst (ha : SA X Wx es n) : SE X Wx (.List es pos) (eLst n) := by
  refine ⟨pe_imp (pe_lst ha.pa) fun σ H Q ⟨b, h, σm, e, S, l, q⟩ => ?_⟩
  refine ⟨b, h, σm, e, S, l, (Post.bind q).mono fun vs H1 ⟨c, ws, g, e, x, s, r, p⟩ => ?_⟩
  subst e
  split at p
  · rename_i hz
    exact ⟨by rw [← r.length]; exact hz, fun a ha => Post.lst s r p ha⟩
  · exact p.elim
/-! ### calls of built-ins -/
structure CallS (X : Cx) (Wx : WX) (f : Value) (m : List W → MH → R W) : Prop where
  run : ∀ (pins : List (Addr × Obj)) (s : Shared) (σ : L2.St) (b : Bs) (h : MH) (ws : List W) (vs : List V) (us : List Value) (Q : VK), Inv X pins σ b.H s → Sim X.K b h → Rls X.K b ws vs → Vals vs us →
    Post X.K (Rl X.K) (fun c d H' => Wx c d σ H') b Q (m ws h) → wpAny (model X.prog X.w) X.A (call f us) (EP X pins σ Q) X.xe s
theorem CallS.of {f : Value} {r : List V → Hp → VK → Prop} {m : List W → MH → R W} (hc : CallR X f r)
    (k : ∀ (σ : L2.St) (b : Bs) (h : MH) (ws : List W) (vs : List V) (Q : VK), Sim X.K b h → Rls X.K b ws vs → Post X.K (Rl X.K) (fun c d H' => Wx c d σ H') b Q (m ws h) → r vs b.H Q) : CallS X Wx f m :=
  ⟨fun pins s σ b h ws vs us Q I S r rv q => hc pins s σ b.H vs us Q I rv (k σ b h ws vs Q S r q)⟩
def eCall (m : List W → MH → R W) (n : AM) : EM := fun σ h => (n σ h).bind m
theorem se_callB {id : String} {x : Str} {p : Pos} {m : List W → MH → R W} (hc : CallS X Wx (.builtin id) m) (hg : Gl X x) (hm : X.mg x = none) (hv : bootBuiltins x = some (.builtin id)) (ha : SA X Wx (e :: es) n) (hn : x ≠ "__name__" := by decide) (hdb : (x == ("__debug__" : Str)) = false := by decide)
    (he : starEach (e :: es) X.env = (false, eval e X.env) :: starEach es X.env := by rfl) (hpl : (backTo pos (starEach es X.env)).any (·.1) = false := by rfl) : SE X Wx (.Call (.Name x p) (e :: es) [] pos) (eCall m n) := by
  refine ⟨⟨fun pins s σ H Q I q => ?_⟩⟩
  obtain ⟨b, h, σm, rfl, S, l, q⟩ := q
  refine wpAny_Call_Name_kw (ld_blt I hg hm hv ?_ hn hdb)
  refine PyProof.Rows.callWith_builtin1 (thn (ha.run pos I S l (Post.bind q)) fun us s1 ⟨vs, H1, I1, r1, c1, ws, h1, e1, E1, S1, l1, q1⟩ => ?_) he hpl
  subst e1
  exact hc.run pins s1 σ c1 h1 ws vs us Q I1 S1 l1 r1 q1
theorem se_callT {T : String} {x : Str} {p : Pos} {m : List W → MH → R W} (hc : CallS X Wx (.type T) m) (hg : Gl X x) (hm : X.mg x = none) (hv : bootBuiltins x = some (.type T)) (ha : SA X Wx (e :: es) n) (hn : x ≠ "__name__" := by decide) (hdb : (x == ("__debug__" : Str)) = false := by decide)
    (he : starEach (e :: es) X.env = (false, eval e X.env) :: starEach es X.env := by rfl) (hpl : (backTo pos (starEach es X.env)).any (·.1) = false := by rfl) : SE X Wx (.Call (.Name x p) (e :: es) [] pos) (eCall m n) := by
  refine ⟨⟨fun pins s σ H Q I q => ?_⟩⟩
  obtain ⟨b, h, σm, rfl, S, l, q⟩ := q
  refine wpAny_Call_Name_kw (ld_blt I hg hm hv ?_ hn hdb)
  refine PyProof.Rows.callWith_type1 (thn (ha.run pos I S l (Post.bind q)) fun us s1 ⟨vs, H1, I1, r1, c1, ws, h1, e1, E1, S1, l1, q1⟩ => ?_) he hpl
  subst e1
  exact hc.run pins s1 σ c1 h1 ws vs us Q I1 S1 l1 r1 q1
end

/-! ### statements -/
section
variable {X : Cx} {Wx : WX} {pos : Pos} {a c e : Expr} {ma mc me : EM} {st : Stmt} {rest : List Stmt} {m n : SM}
def sNext : SM := fun σ h => .nx σ h
def sSeq (m n : SM) : SM := fun σ h => (m σ h).seq n
theorem PostS.seq {K : PySem.W.Frag} {b : Bs} {D : Ends} {r : RS} {k : SM} (h : PostS K Wx b D (r.seq k)) : PostS K Wx b { D with nx := fun σ H => ∃ c g σm, c.H = H ∧ Ext K b c ∧ Sim K c g ∧ SlM K c σm σ ∧ PostS K Wx c D (k σm g) } r := by
  cases r with
  | nx σm g => exact fun c σ x s l => ⟨c, g, σm, rfl, x, s, l, PostS.ext (r := k σm g) h x⟩
  | rt w g => exact h
  | bk _ _ => exact h
  | ct _ _ => exact h
  | exc _ _ _ => exact h
  | stuck => exact h
theorem PostS.mono {K : PySem.W.Frag} {b : Bs} {D D' : Ends} {r : RS} (h : PostS K Wx b D r) (h1 : ∀ σ H, D.nx σ H → D'.nx σ H) (h2 : ∀ v H, D.rt v H → D'.rt v H) (h3 : ∀ σ H, D.bk σ H → D'.bk σ H) (h4 : ∀ σ H, D.ct σ H → D'.ct σ H) : PostS K Wx b D' r := by
  cases r with
  | nx σm g => exact fun c σ x s l => h1 _ _ (h c σ x s l)
  | rt w g => exact fun c v x s l => h2 _ _ (h c v x s l)
  | bk _ _ => exact fun c σ x s l => h3 _ _ (h c σ x s l)
  | ct _ _ => exact fun c σ x s l => h4 _ _ (h c σ x s l)
  | exc _ _ _ => exact h
  | stuck => exact h
theorem ss_nil : SSs X Wx [] sNext := ⟨pss_imp pss_nil fun D σ H ⟨b, h, σm, e, S, l, q⟩ => by subst e; exact q b σ .refl S l⟩
theorem ss_cons (h1 : SS X Wx st m) (h2 : SSs X Wx rest n) : SSs X Wx (st :: rest) (sSeq m n) := by
  refine ⟨pss_imp (pss_cons h1.ps h2.ps) fun D σ H ⟨b, h, σm, e, S, l, q⟩ => ?_⟩
  refine ⟨b, h, σm, e, S, l, (PostS.seq q).mono (fun σ' H' ⟨c, g, σm', e', x, s, l', p⟩ => ⟨c, g, σm', e', s, l', p⟩) (fun _ _ z => z) (fun _ _ z => z) (fun _ _ z => z)⟩
theorem ss_one (h1 : SS X Wx st m) : SSs X Wx [st] m := ⟨pss_one h1.ps⟩
/-- a block that is never reached, or stands for nothing -/
def sStuck : SM := fun _ _ => .stuck
theorem ss_never {sts : List Stmt} : SSs X Wx sts sStuck := ⟨pss_imp pss_never fun D σ H ⟨b, h, σm, e, S, l, q⟩ => q.elim⟩
def sBreak : SM := fun σ h => .bk σ h
def sCont : SM := fun σ h => .ct σ h
theorem ss_pass : SS X Wx (.Pass pos) sNext := ⟨ps_imp ps_pass fun D σ H ⟨b, h, σm, e, S, l, q⟩ => by subst e; exact q b σ .refl S l⟩
theorem ss_break : SS X Wx (.Break pos) sBreak := ⟨ps_imp ps_break fun D σ H ⟨b, h, σm, e, S, l, q⟩ => by subst e; exact q b σ .refl S l⟩
theorem ss_continue : SS X Wx (.Continue pos) sCont := ⟨ps_imp ps_continue fun D σ H ⟨b, h, σm, e, S, l, q⟩ => by subst e; exact q b σ .refl S l⟩
theorem ss_doc {x j pos'} : SS X Wx (.Expr (.Constant (.str x) j pos) pos') sNext := ⟨ps_imp ps_doc fun D σ H ⟨b, h, σm, e, S, l, q⟩ => by subst e; exact q b σ .refl S l⟩
def sExpr (m : EM) : SM := fun σ h => (m σ h).st σ fun _ h1 => .nx σ h1
def sRet (m : EM) : SM := fun σ h => (m σ h).st σ fun w h1 => .rt w h1
def sRetN : SM := fun _ h => .rt .non h
def sSet (i : Nat) (m : EM) : SM := fun σ h => (m σ h).st σ fun w h1 => .nx (σ.set i (some w)) h1
theorem ss_expr (he : SE X Wx e me) (hs : swapsWith e none pos.line X.env = pure false := by rfl) : SS X Wx (.Expr e pos) (sExpr me) := by
  refine ⟨ps_imp (ps_expr he.pe hs) fun D σ H ⟨b, h, σm, e, S, l, q⟩ => ?_⟩
  refine ⟨b, h, σm, e, S, l, (PostS.st l q).mono fun v H1 ⟨c, w, g, e, x, s, r, p⟩ => ?_⟩
  subst e
  exact p c σ .refl s (l.ext x)
theorem ss_ret (he : SE X Wx e me) : SS X Wx (.Return (some e) pos) (sRet me) := by
  refine ⟨ps_imp (ps_ret he.pe) fun D σ H ⟨b, h, σm, e, S, l, q⟩ => ?_⟩
  refine ⟨b, h, σm, e, S, l, (PostS.st (rel := Rl X.K) l q).mono fun v H1 ⟨c, w, g, e, x, s, r, p⟩ => ?_⟩
  subst e
  exact p c v .refl s r
theorem ss_retN : SS X Wx (.Return none pos) sRetN := ⟨ps_imp ps_retN fun D σ H ⟨b, h, σm, e, S, l, q⟩ => by subst e; exact q b .non .refl S .non⟩
theorem ss_set {i : Nat} {x : Str} {pos' : Pos} (hN : X.N.Nodup) (hi : X.N[i]? = some x) (hx : Loc X.env.scope x) (he : SE X Wx e me) (hs : swapsWith e (some (.Name x pos')) pos.line X.env = pure false := by rfl) (hf : X.fn x = true ∨ X.env.scope.names.lookup x = some .local := by first | exact .inl rfl | exact .inr rfl | assumption) :
    SS X Wx (.Assign [.Name x pos'] e pos) (sSet i me) := by
  refine ⟨ps_imp (ps_set hN hi hx he.pe hs hf) fun D σ H ⟨b, h, σm, e, S, l, q⟩ => ?_⟩
  refine ⟨b, h, σm, e, S, l, (PostS.st (rel := Rl X.K) l q).mono fun v H1 ⟨c, w, g, e, x, s, r, p⟩ => ?_⟩
  subst e
  exact p c _ .refl s ((l.ext x).set i r)
def sIf (t : TM) (m n : SM) : SM := fun σ h => (t σ h).st σ fun k h1 => if k = true then m σ h1 else n σ h1
theorem ss_if {t : TM} {p q : List Stmt} (hc : STt X Wx c t) (ha : SSs X Wx p m) (hb : SSs X Wx q n) : SS X Wx (.If c p q pos) (sIf t m n) := by
  refine ⟨ps_imp (ps_if hc.pt ha.ps hb.ps) fun D σ H ⟨b, h, σm, e, S, l, q⟩ => ?_⟩
  refine ⟨b, h, σm, e, S, l, (PostS.st (rel := rEqB) l q).mono fun v H1 ⟨c, w, g, e, x, s, r, p⟩ => ?_⟩
  subst e; subst r
  cases w with
  | true => rw [if_pos rfl] at p ⊢; exact ⟨c, g, σm, rfl, s, l.ext x, p⟩
  | false => rw [if_neg Bool.false_ne_true] at p ⊢; exact ⟨c, g, σm, rfl, s, l.ext x, p⟩

/-! ### targets -/
abbrev GM := W → MS → MH → Option MS
/-- slots but those of vs are as they were -/
def Off (vs : List Nat) (σ σ' : L2.St) : Prop := σ'.length = σ.length ∧ ∀ j, j ∉ vs → σ'[j]? = σ[j]?
theorem Off.refl {vs : List Nat} {σ : L2.St} : Off vs σ σ := ⟨rfl, fun _ _ => rfl⟩
theorem Off.trans {vs : List Nat} {σ σ1 σ2 : L2.St} (a : Off vs σ σ1) (b : Off vs σ1 σ2) : Off vs σ σ2 := ⟨b.1.trans a.1, fun j h => (b.2 j h).trans (a.2 j h)⟩
theorem Off.mono {vs us : List Nat} {σ σ1 : L2.St} (a : Off vs σ σ1) (h : ∀ j ∈ vs, j ∈ us) : Off us σ σ1 := ⟨a.1, fun j k => a.2 j fun z => k (h j z)⟩
theorem wipe_get {σ : L2.St} : ∀ (vs : List Nat) (j : Nat), (wipe σ vs)[j]? = if j ∈ vs then (if j < σ.length then some none else none) else σ[j]?
  | [], j => by simp [wipe]
  | v :: vs, j => by
    unfold wipe
    have ih := wipe_get (σ := σ) vs j
    by_cases h : v = j
    · subst h
      by_cases hl : v < (wipe σ vs).length
      · rw [List.getElem?_set_self hl]
        rw [wipe_length] at hl
        simp [hl]
      · rw [List.getElem?_eq_none (by simpa using hl)]
        rw [wipe_length] at hl
        simp [hl]
    · rw [List.getElem?_set_ne h, ih]
      have : (j = v) = False := by simp; exact fun z => h z.symm
      simp [this]
theorem Off.wipe {vs : List Nat} {σ σ' : L2.St} (o : Off vs σ σ') : wipe σ' vs = wipe σ vs := by
  apply List.ext_getElem?
  intro j
  rw [wipe_get, wipe_get, o.1]
  by_cases h : j ∈ vs
  · simp [h]
  · simp [h, o.2 j h]
def gSim (K : PySem.W.Frag) (vs : List Nat) (g : GM) : TG := fun v σ H Q => ∃ (b : Bs) (h : MH) (σm : MS) (w : W), b.H = H ∧ Sim K b h ∧ SlM K b σm σ ∧ Rl K b w v ∧ match g w σm h with
  | some σm' => ∀ c σ', Ext K b c → Sim K c h → SlM K c σm' σ' → Off vs σ σ' → Q σ' c.H
  | none => False
structure SG (X : Cx) (tg : Expr) (vs : List Nat) (g : GM) : Prop where
  pg : PG X tg (gSim X.K vs g)
theorem pg_imp {tg : Expr} {t u : TG} (h : PG X tg t) (m : ∀ v σ H Q, u v σ H Q → t v σ H Q) : PG X tg u := ⟨fun pins s σ H v z Q I r q => h.run pins s σ H v z Q I r (m _ _ _ _ q)⟩
def gN (i : Nat) : GM := fun w σ _ => some (σ.set i (some w))
theorem sg_name {i : Nat} {x : Str} (hN : X.N.Nodup) (hi : X.N[i]? = some x) (hx : Loc X.env.scope x) (hf : X.fn x = true ∨ X.env.scope.names.lookup x = some .local := by first | exact .inl rfl | exact .inr rfl | assumption) : SG X (.Name x pos) [i] (gN i) := by
  refine ⟨pg_imp (pg_name hN hi hx hf) fun v σ H Q ⟨b, h, σm, w, e, S, l, r, q⟩ => ?_⟩
  subst e
  exact q b _ .refl S (l.set i r) ⟨by simp, fun j hj => List.getElem?_set_ne (by simp at hj; omega)⟩
abbrev GMs := List W → MS → MH → Option MS
def gSims (K : PySem.W.Frag) (vs : List Nat) (g : GMs) : TGs := fun us σ H Q => ∃ (b : Bs) (h : MH) (σm : MS) (ws : List W), b.H = H ∧ Sim K b h ∧ SlM K b σm σ ∧ Rls K b ws us ∧ match g ws σm h with
  | some σm' => ∀ c σ', Ext K b c → Sim K c h → SlM K c σm' σ' → Off vs σ σ' → Q σ' c.H
  | none => False
structure SGs (X : Cx) (tgs : List Expr) (vs : List Nat) (g : GMs) : Prop where
  pgs : PGs X tgs (gSims X.K vs g)
theorem pgs_imp {tg : List Expr} {t u : TGs} (h : PGs X tg t) (m : ∀ v σ H Q, u v σ H Q → t v σ H Q) : PGs X tg u := ⟨fun pins s σ H v z Q I r q => h.run pins s σ H v z Q I r (m _ _ _ _ q)⟩
def gNil : GMs := fun ws σ _ => match ws with
  | [] => some σ
  | _ => none
def gCons (g : GM) (k : GMs) : GMs := fun ws σ h => match ws with
  | w :: ws => (g w σ h).bind fun σ' => k ws σ' h
  | [] => none
theorem sg_nil : SGs X [] [] gNil := by
  refine ⟨pgs_imp pgs_nil fun us σ H Q ⟨b, h, σm, ws, e, S, l, r, q⟩ => ?_⟩
  subst e
  cases r with
  | nil => exact ⟨rfl, q b σ .refl S l .refl⟩
  | cons _ _ => exact q.elim
theorem sg_cons {es : List Expr} {vs us : List Nat} {g : GM} {k : GMs} (h1 : SG X e vs g) (h2 : SGs X es us k) (hs : (assignEach (e :: es) X.env).map (·.2) = assign e X.env :: (assignEach es X.env).map (·.2) := by rfl) : SGs X (e :: es) (vs ++ us) (gCons g k) := by
  refine ⟨pgs_imp (pgs_cons h1.pg h2.pgs hs) fun zs σ H Q ⟨b, h, σm, ws, e, S, l, r, q⟩ => ?_⟩
  subst e
  cases r with
  | nil => exact q.elim
  | @cons w v ws' vs' r rr =>
    refine ⟨v, vs', rfl, b, h, σm, w, rfl, S, l, r, ?_⟩
    have q' : match (g w σm h).bind fun σ' => k ws' σ' h with
      | some σm' => ∀ c σ', Ext X.K b c → Sim X.K c h → SlM X.K c σm' σ' → Off (vs ++ us) σ σ' → Q σ' c.H
      | none => False := q
    cases eg : g w σm h with
    | none => rw [eg] at q'; exact q'
    | some σ1 =>
      rw [eg] at q'
      refine fun c σ' x s l' o => ⟨c, h, σ1, ws', rfl, s, l', rr.ext x, ?_⟩
      simp only [Option.bind_some] at q'
      cases ek : k ws' σ1 h with
      | none => rw [ek] at q'; exact q'
      | some σ2 =>
        rw [ek] at q'
        exact fun c2 σ2' x2 s2 l2 o2 => q' c2 σ2' (x.trans x2) s2 l2 ((o.mono fun j hj => List.mem_append_left _ hj).trans (o2.mono fun j hj => List.mem_append_right _ hj))
/-- (a, b, ..) = a tuple -/
def gTp (n : Nat) (k : GMs) : GM := fun w σ h => match w with
  | .tup ws => if ws.length = n then k ws σ h else none
  | _ => none
theorem sg_tup {es : List Expr} {vs : List Nat} {k : GMs} {n k0 : Nat} (hc : X.calm = true) (hk : SGs X es vs k) (hn : (assignEach es X.env).length = n := by rfl) (hst : (assignEach es X.env).findIdx? (·.1) = none := by rfl) : SG X (.Tuple es k0 pos) vs (gTp n k) := by
  refine ⟨pg_imp (pg_tup hc hk.pgs hn hst) fun v σ H Q ⟨b, h, σm, w, e, S, l, r, q⟩ => ?_⟩
  subst e
  unfold gTp at q
  cases r with
  | tup a ws us hs rr =>
    dsimp only at q
    by_cases hz : ws.length = n
    · rw [if_pos hz] at q
      exact ⟨a, us, rfl, hs, by rw [← rr.length]; exact hz, b, h, σm, ws, rfl, S, l, rr, q⟩
    · rw [if_neg hz] at q
      exact q.elim
  | _ => exact q.elim
/-- target = value -/
def sAsg (g : GM) (m : EM) : SM := fun σ h => (m σ h).st σ fun w h1 => match g w σ h1 with
  | some σ' => .nx σ' h1
  | none => .stuck
theorem ss_asg {tg : Expr} {vs : List Nat} {g : GM} (he : SE X Wx e me) (hg : SG X tg vs g) (hs : swapsWithSole [tg] e pos.line X.env = pure false := by rfl) (hw : swappedStores [tg] e X.env = pure none := by rfl)
    (h1 : (assignEach [tg] X.env).map (·.2) = [assign tg X.env] := by rfl) : SS X Wx (.Assign [tg] e pos) (sAsg g me) := by
  refine ⟨ps_imp (ps_asg he.pe hg.pg hs hw h1) fun D σ H ⟨b, h, σm, e, S, l, q⟩ => ?_⟩
  refine ⟨b, h, σm, e, S, l, (PostS.st (rel := Rl X.K) l q).mono fun v H1 ⟨c, w, g', e, x, s, r, p⟩ => ?_⟩
  refine ⟨c, g', σm, w, e, s, l.ext x, r, ?_⟩
  cases eg : g w σm g' with
  | none => rw [eg] at p; exact p
  | some σ1 =>
    rw [eg] at p
    exact fun c2 σ2 x2 s2 l2 _ => p c2 σ2 x2 s2 l2
end
end PM
/-! Sm4: what is walked; for, while; list comprehensions. -/
noncomputable section
namespace PM
open PySem PySem.Spec L2
open PyProof.Rows hiding St
/-- what is walked: at most so many items; at turn i: none: not to be told; some none: the end -/
structure MI where
  fuel : Nat
  nx : Nat → MH → Option (Option W)
def ItS (K : PySem.W.Frag) (b0 : Bs) (mi : MI) (J : It) : Prop := ∀ (b : Bs) (h : MH) (i : Nat), Ext K b0 b → Sim K b h → match mi.nx i h with
  | none => True
  | some none => J.stop i b.H
  | some (some w) => J.go i b.H ∧ ∀ x H', J.yld i b.H x H' → ∃ c, c.H = H' ∧ Ext K b c ∧ Sim K c h ∧ Rl K c w x
def iSim (K : PySem.W.Frag) (Wx : WX) (m : MS → MH → R MI) : TI := fun σ H Rr => ∃ (b : Bs) (h : MH) (σm : MS), b.H = H ∧ Sim K b h ∧ SlM K b σm σ ∧ Post K (ItS K) (fun c d H' => Wx c d σ H') b Rr (m σm h)
structure SI (X : Cx) (Wx : WX) (tg iter : Expr) (m : MS → MH → R MI) : Prop where
  pi : PI X tg iter (iSim X.K Wx m)
theorem pi_imp {X : Cx} {tg iter : Expr} {t u : TI} (h : PI X tg iter t) (m : ∀ σ H Q, u σ H Q → t σ H Q) : PI X tg iter u := ⟨fun pins s σ H Q I q => h.run pins s σ H Q I (m _ _ _ q)⟩
theorem pi_or {X : Cx} {tg iter : Expr} {t u : TI} (h : PI X tg iter t) (k : PI X tg iter u) : PI X tg iter (fun σ H Q => t σ H Q ∨ u σ H Q) := ⟨fun pins s σ H Q I q => by
  rcases q with q | q
  · exact h.run pins s σ H Q I q
  · exact k.run pins s σ H Q I q⟩
section
variable {X : Cx} {Wx : WX} {pos : Pos} {a c e tg iter : Expr} {ma mc me : EM} {n : AM}
/-- the items of a list (as it stands at each turn), of a tuple -/
def itL (i : Nat) (xs : List W) : MI := ⟨xs.length, fun k g => match lstAt g i with
  | some ys => some ys[k]?
  | none => none⟩
def itT (ws : List W) : MI := ⟨ws.length, fun k _ => some ws[k]?⟩
/-- a text, sign by sign -/
def itS (x : Str) : MI := ⟨x.length, fun k _ => some (x.cps.toList[k]?.map fun c => .str ⟨#[c]⟩)⟩
theorem itS_ok {K : PySem.W.Frag} {c : Bs} {x : Str} : ItS K c (itS x) (Its x) := by
  intro b h k _ s
  unfold itS
  dsimp only
  cases e : x.cps.toList[k]? with
  | none =>
    have := List.getElem?_eq_none_iff.mp e
    exact show x.cps.size ≤ k by simpa using this
  | some c =>
    have lt := (List.getElem?_eq_some_iff.mp e).1
    refine ⟨show k < x.cps.size by simpa using lt, fun z H' ⟨e3, c', hc, hz⟩ => ⟨b, e3.symm, .refl, s, ?_⟩⟩
    have : x.cps[k]? = some c := by simpa using e
    rw [this] at hc; cases hc
    rw [hz]; exact .str _
def iterW (w : W) (h : MH) : R MI := match w with
  | .str x => .ok (itS x) h
  | .ref i => match lstAt h i with
    | some xs => .ok (itL i xs) h
    | none => .stuck
  | .tup ws => .ok (itT ws) h
  | .vl ws => .ok (itT ws) h
  | _ => .stuck
theorem itL_ok {K : PySem.W.Frag} {c : Bs} {i : Nat} {xs : List W} (hi : i < c.n) : ItS K c (itL i xs) (Itl K (c.at_ i)) := by
  intro b h k x s
  unfold itL
  dsimp only
  cases e : lstAt h i with
  | none => trivial
  | some ys =>
    dsimp only
    obtain ⟨vs, h1, r, _⟩ := s.list e
    rw [x.ix i hi] at h1
    cases e2 : ys[k]? with
    | none => exact ⟨vs, h1, by rw [← r.length]; exact List.getElem?_eq_none_iff.mp e2⟩
    | some y =>
      obtain ⟨v, hv, rv⟩ := r.get e2
      refine ⟨⟨vs, v, h1, hv⟩, fun z H' ⟨e3, hz⟩ => ⟨b, e3.symm, .refl, s, ?_⟩⟩
      have := hz vs h1
      rw [hv] at this; cases this
      exact rv
theorem itT_ok {K : PySem.W.Frag} {c : Bs} {a : Addr} {ws : List W} {vs : List V} (hs : SqT K c.H a vs) (r : Rls K c ws vs) : ItS K c (itT ws) (Itt K a) := by
  intro b h k x s
  unfold itT
  dsimp only
  have h1 := x.tp _ _ hs
  cases e2 : ws[k]? with
  | none => exact ⟨vs, h1, by rw [← r.length]; exact List.getElem?_eq_none_iff.mp e2⟩
  | some y =>
    obtain ⟨v, hv, rv⟩ := r.get e2
    refine ⟨⟨vs, v, h1, hv⟩, fun z H' ⟨e3, hz⟩ => ⟨b, e3.symm, .refl, s, ?_⟩⟩
    have := hz vs h1
    rw [hv] at this; cases this
    exact rv.ext x
theorem itZ_ok {K : PySem.W.Frag} {c : Bs} {a : Addr} {ws : List W} {vs : List V} (hs : c.Z a = some (.lst vs)) (r : Rls K c ws vs) : ItS K c (itT ws) (Itl K a) := by
  intro b h k x s
  unfold itT
  dsimp only
  have h1 := s.zl (x.zz _ _ hs)
  cases e2 : ws[k]? with
  | none => exact ⟨vs, h1, by rw [← r.length]; exact List.getElem?_eq_none_iff.mp e2⟩
  | some y =>
    obtain ⟨v, hv, rv⟩ := r.get e2
    refine ⟨⟨vs, v, h1, hv⟩, fun z H' ⟨e3, hz⟩ => ⟨b, e3.symm, .refl, s, ?_⟩⟩
    have := hz vs h1
    rw [hv] at this; cases this
    exact rv.ext x
def iVal (m : EM) : MS → MH → R MI := fun σ h => (m σ h).bind iterW
theorem si_val (ha : SE X Wx a ma) : SI X Wx tg a (iVal ma) := by
  refine ⟨pi_imp (pi_or (pi_list ha.pe) (pi_or (pi_tup ha.pe) (pi_str ha.pe))) fun σ H Q ⟨b, h, σm, e, S, l, q⟩ => ?_⟩
  have q : Post X.K (ItS X.K) (fun c d H' => Wx c d σ H') b Q ((ma σm h).bind iterW) := q
  cases em : ma σm h with
  | stuck => rw [em] at q; exact q.elim
  | exc x g => rw [em] at q; exact .inl ⟨b, h, σm, e, S, l, by rw [em]; exact q⟩
  | ok w g =>
    rw [em] at q
    have q : Post X.K (ItS X.K) (fun c d H' => Wx c d σ H') b Q (iterW w g) := q
    unfold iterW at q
    cases w with
    | ref i =>
      dsimp only at q
      cases el : lstAt g i with
      | none => rw [el] at q; exact q.elim
      | some xs =>
        rw [el] at q
        refine .inl ⟨b, h, σm, e, S, l, ?_⟩
        rw [em]
        intro c v x s r
        cases r with
        | ref _ hi =>
          obtain ⟨vs, h1, r, _⟩ := s.list el
          exact ⟨_, rfl, ⟨vs, h1⟩, q c _ x s (itL_ok hi)⟩
    | vl ws =>
      refine .inl ⟨b, h, σm, e, S, l, ?_⟩
      rw [em]
      intro c v x s r
      cases r with
      | vl a _ vs z r => exact ⟨a, rfl, ⟨vs, s.zl z⟩, q c _ x s (itZ_ok z r)⟩
    | tup ws =>
      refine .inr (.inl ⟨b, h, σm, e, S, l, ?_⟩)
      rw [em]
      intro c v x s r
      cases r with
      | tup a _ vs hs r => exact ⟨a, rfl, ⟨vs, hs⟩, q c _ x s (itT_ok hs r)⟩
    | str z =>
      refine .inr (.inr ⟨b, h, σm, e, S, l, ?_⟩)
      rw [em]
      intro c v x s r
      cases r with
      | str _ => exact ⟨z, rfl, q c _ x s itS_ok⟩
    | _ => exact q.elim
/-- range -/
def itR (lo : Int) (n : Nat) : MI := ⟨n, fun k _ => if k < n then some (some (.int (lo + k))) else some none⟩
theorem itR_ok {K : PySem.W.Frag} {c : Bs} {lo : Int} {n : Nat} : ItS K c (itR lo n) (Itr lo n) := by
  intro b h k x s
  unfold itR
  dsimp only
  by_cases hk : k < n
  · rw [if_pos hk]
    exact ⟨hk, fun z H' ⟨e3, hz⟩ => ⟨b, e3.symm, .refl, s, by rw [hz]; exact .int _⟩⟩
  · rw [if_neg hk]
    exact Nat.le_of_not_lt hk
def rng1 (ws : List W) (h : MH) : R MI := match ws with
  | [.int j] => @ite _ (-(2 ^ 62) ≤ j ∧ j < 2 ^ 62) (Classical.propDecidable _) (.ok (itR 0 j.toNat) h) .stuck
  | _ => .stuck
def rng2 (ws : List W) (h : MH) : R MI := match ws with
  | [.int i, .int j] => @ite _ (-(2 ^ 62) ≤ i ∧ i < 2 ^ 62 ∧ -(2 ^ 62) ≤ j ∧ j < 2 ^ 62) (Classical.propDecidable _) (.ok (itR i (j - i).toNat) h) .stuck
  | _ => .stuck
def iRange (f : List W → MH → R MI) (n : AM) : MS → MH → R MI := fun σ h => (n σ h).bind f
theorem si_range1 {p pos : Pos} (hg : Gl X "range") (hm : X.mg "range" = none) (ha : SA X Wx [a] n) (hs : starEach [a] X.env = [(false, eval a X.env)] := by rfl) : SI X Wx tg (.Call (.Name "range" p) [a] [] pos) (iRange rng1 n) := by
  refine ⟨pi_imp (pi_range1 hg hm ha.pa hs) fun σ H Q ⟨b, h, σm, e, S, l, q⟩ => ?_⟩
  refine ⟨b, h, σm, e, S, l, (Post.bind q).mono fun vs H1 ⟨c, ws, g, e, x, s, r, p⟩ => ?_⟩
  subst e
  unfold rng1 at p
  split at p
  · rename_i j
    cases r with
    | cons r rr =>
      cases rr; cases r
      split at p
      · rename_i hj
        exact ⟨j, rfl, hj.1, hj.2, p.here s itR_ok⟩
      · exact p.elim
  · exact p.elim
theorem si_range2 {p pos : Pos} {a' : Expr} (hg : Gl X "range") (hm : X.mg "range" = none) (ha : SA X Wx [a, a'] n) (hs : starEach [a, a'] X.env = [(false, eval a X.env), (false, eval a' X.env)] := by rfl) (hs2 : starEach [a'] X.env = [(false, eval a' X.env)] := by rfl) :
    SI X Wx tg (.Call (.Name "range" p) [a, a'] [] pos) (iRange rng2 n) := by
  refine ⟨pi_imp (pi_range2 hg hm ha.pa hs hs2) fun σ H Q ⟨b, h, σm, e, S, l, q⟩ => ?_⟩
  refine ⟨b, h, σm, e, S, l, (Post.bind q).mono fun vs H1 ⟨c, ws, g, e, x, s, r, p⟩ => ?_⟩
  subst e
  unfold rng2 at p
  split at p
  · rename_i i j
    cases r with
    | cons r rr =>
      cases rr with
      | cons r' rr =>
        cases rr; cases r; cases r'
        split at p
        · rename_i hj
          exact ⟨i, j, rfl, hj, p.here s itR_ok⟩
        · exact p.elim
  · exact p.elim
/-! ### for -/
def forGo (mi : MI) (g : GM) (body : SM) : Nat → Nat → MS → MH → RS
  | 0, i, σ, h => match mi.nx i h with
    | some none => .nx σ h
    | _ => .stuck
  | f + 1, i, σ, h => match mi.nx i h with
    | some none => .nx σ h
    | none => .stuck
    | some (some w) => match g w σ h with
      | none => .stuck
      | some σ1 => match body σ1 h with
        | .nx σ2 h2 => forGo mi g body f (i + 1) σ2 h2
        | .ct σ2 h2 => forGo mi g body f (i + 1) σ2 h2
        | .bk σ2 h2 => .nx σ2 h2
        | .rt w2 h2 => .rt w2 h2
        | .exc x σ2 h2 => .exc x σ2 h2
        | .stuck => .stuck
def sFor (it : MS → MH → R MI) (g : GM) (body : SM) : SM := fun σ h => (it σ h).st σ fun mi h1 => forGo mi g body mi.fuel 0 σ h1
theorem ss_for {it : MS → MH → R MI} {vs : List Nat} {g : GM} {body : List Stmt} {mb : SM} (hp : PassesOwn (model X.prog X.w) X.A X.env X.xe) (hc : X.calm = true) (hi : SI X Wx tg iter it) (hg : SG X tg vs g) (hb : SSs X Wx body mb)
    (hs : ∀ x, foldedSetIterable iter X.env x = pure x := by intro _; rfl) : SS X Wx (.For tg iter body [] pos) (sFor it g mb) := by
  refine ⟨ps_imp (ps_for hp hc hi.pi hg.pg hb.ps hs) fun D σ H ⟨b, h, σm, e, S, l, q⟩ => ?_⟩
  refine ⟨b, h, σm, e, S, l, (PostS.st (rel := ItS X.K) l q).mono fun J H1 ⟨c, mi, g1, e, x, s, r, p⟩ => ?_⟩
  subst e
  refine ⟨fun i m σ H => ∃ (b : Bs) (h : MH) (σm : MS), b.H = H ∧ Ext X.K c b ∧ Sim X.K b h ∧ SlM X.K b σm σ ∧ PostS X.K Wx b D (forGo mi g mb m i σm h), ⟨mi.fuel, c, g1, σm, rfl, .refl, s, l.ext x, p⟩, ?_⟩
  rintro i m σ H ⟨b, h, σm, rfl, x, s, l, p⟩
  have ri := r b h i x s
  cases m with
  | zero =>
    unfold forGo at p
    cases em : mi.nx i h with
    | none => rw [em] at p; exact p.elim
    | some ow =>
      cases ow with
      | none => rw [em] at p ri; exact .inl ⟨ri, p b σ .refl s l⟩
      | some w => rw [em] at p; exact p.elim
  | succ f =>
    unfold forGo at p
    cases em : mi.nx i h with
    | none => rw [em] at p; exact p.elim
    | some ow =>
      cases ow with
      | none => rw [em] at p ri; exact .inl ⟨ri, p b σ .refl s l⟩
      | some w =>
        rw [em] at p ri
        dsimp only at p ri
        cases eg : g w σm h with
        | none => rw [eg] at p; exact p.elim
        | some σ1 =>
          rw [eg] at p
          dsimp only at p
          refine .inr ⟨ri.1, fun σ' H' => ∃ (b : Bs) (h : MH) (σm : MS), b.H = H' ∧ Ext X.K c b ∧ Sim X.K b h ∧ SlM X.K b σm σ' ∧ PostS X.K Wx b D (forGo mi g mb f (i + 1) σm h), fun σ' H' z => ⟨f, Nat.lt_succ_self _, z⟩, fun v H' y => ?_⟩
          obtain ⟨c1, e1, x1, s1, r1⟩ := ri.2 v H' y
          refine ⟨c1, h, σm, w, e1, s1, l.ext x1, r1, ?_⟩
          rw [eg]
          refine fun c2 σ2 x2 s2 l2 _ => ⟨c2, h, σ1, rfl, s2, l2, ?_⟩
          have x' : Ext X.K c c2 := x.trans (x1.trans x2)
          have p := PostS.ext p (x1.trans x2)
          cases eb : mb σ1 h with
          | nx σ3 h3 => rw [eb] at p; exact fun d σ4 y4 s4 l4 => ⟨d, h3, σ3, rfl, x'.trans y4, s4, l4, PostS.ext (r := forGo mi g mb f (i + 1) σ3 h3) p y4⟩
          | ct σ3 h3 => rw [eb] at p; exact fun d σ4 y4 s4 l4 => ⟨d, h3, σ3, rfl, x'.trans y4, s4, l4, PostS.ext (r := forGo mi g mb f (i + 1) σ3 h3) p y4⟩
          | bk σ3 h3 => rw [eb] at p; exact p
          | rt w3 h3 => rw [eb] at p; exact p
          | exc _ _ _ => rw [eb] at p; exact p
          | stuck => rw [eb] at p; exact p
/-! ### while -/
def whGo (t : TM) (body : SM) : Nat → MS → MH → RS
  | 0, _, _ => .stuck
  | f + 1, σ, h => (t σ h).st σ fun k h1 => if k = true then
      match body σ h1 with
        | .nx σ2 h2 => whGo t body f σ2 h2
        | .ct σ2 h2 => whGo t body f σ2 h2
        | .bk σ2 h2 => .nx σ2 h2
        | .rt w2 h2 => .rt w2 h2
        | .exc x σ2 h2 => .exc x σ2 h2
        | .stuck => .stuck
    else .nx σ h1
def sWhile (fuel : Nat) (t : TM) (body : SM) : SM := fun σ h => whGo t body fuel σ h
theorem ss_while {t : TM} {body : List Stmt} {mb : SM} (fuel : Nat) (hp : PassesOwn (model X.prog X.w) X.A X.env X.xe) (hc : STt X Wx c t) (hb : SSs X Wx body mb) : SS X Wx (.While c body [] pos) (sWhile fuel t mb) := by
  refine ⟨ps_imp (ps_while hp hc.pt hb.ps) fun D σ H ⟨b, h, σm, e, S, l, q⟩ => ?_⟩
  refine ⟨fun m σ H => ∃ (b : Bs) (h : MH) (σm : MS), b.H = H ∧ Sim X.K b h ∧ SlM X.K b σm σ ∧ PostS X.K Wx b D (whGo t mb m σm h), ⟨fuel, b, h, σm, e, S, l, q⟩, ?_⟩
  rintro m σ H ⟨b, h, σm, rfl, s, l, p⟩
  cases m with
  | zero => exact p.elim
  | succ f =>
    unfold whGo at p
    refine ⟨b, h, σm, rfl, s, l, (PostS.st (rel := rEqB) l p).mono fun k H1 ⟨c1, k', g, e, x, s, r, p⟩ => ?_⟩
    subst e; subst r
    cases k' with
    | false => rw [if_neg Bool.false_ne_true] at p ⊢; exact p c1 σ .refl s (l.ext x)
    | true =>
      rw [if_pos rfl] at p ⊢
      refine ⟨fun σ' H' => ∃ (b : Bs) (h : MH) (σm : MS), b.H = H' ∧ Sim X.K b h ∧ SlM X.K b σm σ' ∧ PostS X.K Wx b D (whGo t mb f σm h), fun σ' H' z => ⟨f, Nat.lt_succ_self _, z⟩, c1, g, σm, rfl, s, l.ext x, ?_⟩
      cases eb : mb σm g with
      | nx σ3 h3 => rw [eb] at p; exact fun d σ4 y4 s4 l4 => ⟨d, h3, σ3, rfl, s4, l4, PostS.ext (r := whGo t mb f σ3 h3) p y4⟩
      | ct σ3 h3 => rw [eb] at p; exact fun d σ4 y4 s4 l4 => ⟨d, h3, σ3, rfl, s4, l4, PostS.ext (r := whGo t mb f σ3 h3) p y4⟩
      | bk σ3 h3 => rw [eb] at p; exact p
      | rt w3 h3 => rw [eb] at p; exact p
      | exc _ _ _ => rw [eb] at p; exact p
      | stuck => rw [eb] at p; exact p
/-! ### comprehensions -/
abbrev W0 : WX := fun _ _ _ _ => False
/-- no exception within -/
def R.nox {α : Type} : R α → R α
  | .ok a h => .ok a h
  | _ => .stuck
@[simp] theorem R.nox_ok {α : Type} (a : α) (h : MH) : (R.ok a h).nox = .ok a h := rfl
@[simp] theorem R.nox_exc {α : Type} (x : Xn) (h : MH) : (R.exc x h : R α).nox = .stuck := rfl
@[simp] theorem R.nox_stuck {α : Type} : (R.stuck : R α).nox = .stuck := rfl
def wipeM (σ : MS) : List Nat → MS
  | [] => σ
  | v :: vs => (wipeM σ vs).set v none
theorem SlM.wipe {K : PySem.W.Frag} {b : Bs} {m : MS} {σ : L2.St} (s : SlM K b m σ) : ∀ vs, SlM K b (wipeM m vs) (wipe σ vs)
  | [] => s
  | v :: vs => by
    have ih := s.wipe vs
    refine ⟨by unfold wipeM L2.wipe; rw [List.length_set, List.length_set]; exact ih.len, fun j u e => ?_⟩
    unfold wipeM at e
    unfold L2.wipe
    by_cases hj : v = j
    · subst hj
      by_cases hi : v < (wipeM m vs).length
      · rw [List.getElem?_set_self hi] at e; cases e
      · rw [List.getElem?_eq_none (by simpa using hi)] at e; cases e
    · rw [List.getElem?_set_ne hj] at e ⊢
      exact ih.at_ j u e
def lcGo (mi : MI) (g : GM) (t : TM) (e : EM) (σ : MS) (j : Nat) : Nat → Nat → MH → R W
  | 0, i, h => match mi.nx i h with
    | some none => .ok (.ref j) h
    | _ => .stuck
  | f + 1, i, h => match mi.nx i h with
    | some none => .ok (.ref j) h
    | none => .stuck
    | some (some w) => match g w σ h with
      | none => .stuck
      | some σ1 => ((t σ1 h).nox).bind fun k h1 => if k = true then
          ((e σ1 h1).nox).bind fun y h2 => match mutAt h2 j with
            | some acc => if acc.length < sizeLine then lcGo mi g t e σ j f (i + 1) (h2.set j (.lst (acc ++ [y]))) else .stuck
            | none => .stuck
        else lcGo mi g t e σ j f (i + 1) h1
/-- the tests of a comprehension -/
def tYesM : TM := fun _ h => .ok true h
structure SPTs (X : Cx) (ifs : List Expr) (m : TM) : Prop where
  pts : PTs X ifs (tSimT X.K W0 m)
theorem spts_nil : SPTs X [] tYesM := ⟨⟨fun pins s σ H Q I ⟨b, h, σm, e, S, l, q⟩ => by
  subst e
  exact pts_nil.run pins s σ b.H Q I (q.here S rfl)⟩⟩
def eLc (it : MS → MH → R MI) (vs : List Nat) (g : GM) (t : TM) (m : EM) : EM := fun σ h => (it σ h).bind fun mi h1 => lcGo mi g t m (wipeM σ vs) h1.length mi.fuel 0 (h1 ++ [.lst []])
end
end PM
/-! Sm5: list comprehensions. -/
noncomputable section
namespace PM
open PySem PySem.Spec L2
open PyProof.Rows hiding St
theorem Post.bindN {α β γ δ : Type} {K : PySem.W.Frag} {rel : Bs → α → β → Prop} {rel' : Bs → γ → δ → Prop} {We : Value → Option Addr → Hp → Prop} {b : Bs} {Q : δ → Hp → Prop} {r : R α} {k : α → MH → R γ} (h : Post K rel' We b Q (r.nox.bind k)) :
    Post K rel (fun _ _ _ => False) b (fun v H1 => ∃ c w g, c.H = H1 ∧ Ext K b c ∧ Sim K c g ∧ rel c w v ∧ Post K rel' We c Q (k w g)) r := by
  cases r with
  | ok w g => exact fun c v x s r => ⟨c, w, g, rfl, x, s, r, Post.ext (r := k w g) h x⟩
  | exc e g => exact h.elim
  | stuck => exact h
section
variable {X : Cx} {Wx : WX} {pos : Pos} {a c e tg iter : Expr} {ma mc me : EM} {n : AM}
theorem spts_one {t : TM} (h : STt X W0 c t) : SPTs X [c] t := ⟨pts_one h.pt⟩
/-- what a comprehension asks of its parts, for every block that may be made of them -/
structure LcP (X : Cx) (tg elt : Expr) (ifs : List Expr) (scope : Scope) (own : List (Str × Nat)) (g : GM) (t : TM) (m : EM) : Prop where
  ok : BlkOk X.N X.env.scope scope own
  g : ∀ (s : Shared) (H : Hp) (C : Addr) (cl : List (Str × Addr)) (fp : List Addr), SG (X.blk s H scope (compEnvC scope cl C X.env) fp) tg (own.map (·.2)) g
  t : ∀ (s : Shared) (H : Hp) (C : Addr) (cl : List (Str × Addr)) (fp : List Addr), SPTs (X.blk s H scope (compEnvC scope cl C X.env) fp) ifs t
  e : ∀ (s : Shared) (H : Hp) (C : Addr) (cl : List (Str × Addr)) (fp : List Addr), SE (X.blk s H scope (compEnvC scope cl C X.env) fp) W0 elt m
theorem lc_read {K : PySem.W.Frag} {Wx : WX} {it : MS → MH → R MI} {vs : List Nat} {g : GM} {t : TM} {m : EM} {σ : L2.St} {H : Hp} {Q : VK} (q : tSim K Wx (eLc it vs g t m) σ H Q) :
    tLc (iSim K Wx it) (gSim K vs g) (tSimT K W0 t) (tSim K W0 m) vs σ H Q := by
  obtain ⟨b, h, σm, e, S, l, q⟩ := q
  refine ⟨b, h, σm, e, S, l, (Post.bind (rel := ItS K) q).mono fun J H1 ⟨c, mi, g1, e, x, s, r, p⟩ D hD => ?_⟩
  subst e
  obtain ⟨xD, sD, rD⟩ := s.pushL (ys := []) (vs := []) hD .nil
  have hj : g1.length = c.n := s.len.symm
  refine ⟨fun i f H => ∃ (b : Bs) (h : MH), b.H = H ∧ Ext K (c.push D (.lst [])) b ∧ Sim K b h ∧ SlM K b (wipeM σm vs) (wipe σ vs) ∧ Post K (Rl K) (fun c d H' => Wx c d σ H') b Q (lcGo mi g t m (wipeM σm vs) g1.length f i h), ⟨mi.fuel, c.push D (.lst []), _, rfl, .refl, sD, (((l.ext x).ext xD).wipe vs), Post.ext p xD⟩, ?_⟩
  rintro i f H ⟨b, h, rfl, x2, s2, l2, p⟩
  have ri := r b h i (xD.trans x2) s2
  have atD : b.at_ g1.length = D := by
    rw [x2.ix g1.length (by rw [hj]; exact Nat.lt_succ_self _), hj]
    exact Bs.push_at _ _ _
  have rj : Rl K b (.ref g1.length) (.ref D) := by
    have := Rl.ref (K := K) (b := b) g1.length (Nat.lt_of_lt_of_le (by rw [hj]; exact Nat.lt_succ_self _) x2.le)
    rw [atD] at this
    exact this
  cases f with
  | zero =>
    unfold lcGo at p
    cases em : mi.nx i h with
    | none => rw [em] at p; exact p.elim
    | some ow =>
      cases ow with
      | none => rw [em] at p ri; exact .inl ⟨ri, p.here s2 rj⟩
      | some w => rw [em] at p; exact p.elim
  | succ f =>
    unfold lcGo at p
    cases em : mi.nx i h with
    | none => rw [em] at p; exact p.elim
    | some ow =>
      cases ow with
      | none => rw [em] at p ri; exact .inl ⟨ri, p.here s2 rj⟩
      | some w =>
        rw [em] at p ri
        dsimp only at p ri
        cases eg : g w (wipeM σm vs) h with
        | none => rw [eg] at p; exact p.elim
        | some σ1 =>
          rw [eg] at p
          dsimp only at p
          refine .inr ⟨ri.1, fun H' => ∃ (b : Bs) (h : MH), b.H = H' ∧ Ext K (c.push D (.lst [])) b ∧ Sim K b h ∧ SlM K b (wipeM σm vs) (wipe σ vs) ∧ Post K (Rl K) (fun c d H' => Wx c d σ H') b Q (lcGo mi g t m (wipeM σm vs) g1.length f (i + 1) h), fun H' z => ⟨f, Nat.lt_succ_self _, z⟩, fun v H' y => ?_⟩
          obtain ⟨c1, e1, x1, s1, r1⟩ := ri.2 v H' y
          refine ⟨c1, h, _, w, e1, s1, l2.ext x1, r1, ?_⟩
          rw [eg]
          refine fun c3 σ3 x3 s3 l3 o3 => ⟨?_, c3, h, σ1, rfl, s3, l3, ?_⟩
          · rw [o3.wipe]
            have : Off vs σ (wipe σ vs) := ⟨wipe_length _ _, fun j hj => by rw [wipe_get, if_neg hj]⟩
            rw [this.wipe]
          refine (Post.bindN (rel := rEqB) (Post.ext p (x1.trans x3))).mono fun k H4 ⟨c4, k', g4, e4, x4, s4, r4, p4⟩ => ?_
          subst e4; subst r4
          have l4 : SlM K c4 (wipeM σm vs) (wipe σ vs) := ((l2.ext x1).ext x3).ext x4
          have x04 : Ext K (c.push D (.lst [])) c4 := x2.trans (x1.trans (x3.trans x4))
          cases k' with
          | false =>
            rw [if_neg Bool.false_ne_true] at p4 ⊢
            exact ⟨c4, g4, rfl, x04, s4, l4, p4⟩
          | true =>
            rw [if_pos rfl] at p4 ⊢
            refine ⟨c4, g4, σ1, rfl, s4, l3.ext x4, (Post.bindN (rel := Rl K) p4).mono fun y H5 ⟨c5, yw, g5, e5, x5, s5, r5, p5⟩ => ?_⟩
            subst e5
            cases ea : mutAt g5 g1.length with
            | none => rw [ea] at p5; exact p5.elim
            | some acc =>
              rw [ea] at p5
              dsimp only at p5
              by_cases hz : acc.length < sizeLine
              · rw [if_pos hz] at p5
                obtain ⟨us, h6, r6, lt6⟩ := s5.mut ea
                have at5 : c5.at_ g1.length = D := by
                  rw [(x3.trans (x4.trans x5)).ix _ (Nat.lt_of_lt_of_le (Nat.lt_of_lt_of_le (by rw [hj]; exact Nat.lt_succ_self _) x2.le) x1.le), x1.ix _ (Nat.lt_of_lt_of_le (by rw [hj]; exact Nat.lt_succ_self _) x2.le), atD]
                rw [at5] at h6
                obtain ⟨x7, s7⟩ := s5.putL (ys := acc ++ [yw]) (vs := us ++ [y]) ea (r6.append (.cons r5 .nil))
                refine ⟨us, h6, by rw [← r6.length]; exact hz, c5.put g1.length (.lst (us ++ [y])), _, ?_, x04.trans (x5.trans x7), s7, (l4.ext x5).ext x7, Post.ext p5 x7⟩
                show upd c5.H (c5.at_ g1.length) _ = _
                rw [at5]
              · rw [if_neg hz] at p5; exact p5.elim
theorem se_lc {ifs : List Expr} {scope : Scope} {own : List (Str × Nat)} {it : MS → MH → R MI} {g : GM} {t : TM} {m : EM} {elt : Expr} (hc : X.calm = true) (hN : X.N.Nodup) (hi : SI X Wx tg iter it) (L : LcP X tg elt ifs scope own g t m)
    (hs : ∀ x, foldedSetIterable iter X.env x = pure x := by intro _; rfl) : SE X Wx (.ListComp elt [⟨tg, iter, ifs, 0⟩] scope pos) (eLc it (own.map (·.2)) g t m) :=
  ⟨pe_imp (pe_lc (g := gSim X.K (own.map (·.2)) g) (tt := tSimT X.K W0 t) (te := tSim X.K W0 m) hc hN hi.pi L.ok (fun s H C cl fp => (L.g s H C cl fp).pg) (fun s H C cl fp => (L.t s H C cl fp).pts) (fun s H C cl fp => (L.e s H C cl fp).pe) hs) fun σ H Q q => lc_read q⟩
/-- name = [..] -/
theorem ss_setLc {i : Nat} {y : Str} {py : Pos} {ifs : List Expr} {scope : Scope} {own : List (Str × Nat)} {it : MS → MH → R MI} {g : GM} {t : TM} {m : EM} {elt : Expr} {spos : Pos} (hc : X.calm = true) (hN : X.N.Nodup) (hy : X.N[i]? = some y) (hyl : X.env.scope.names.lookup y = some .local)
    (hsw : swapsWith (.ListComp elt [⟨tg, iter, ifs, 0⟩] scope pos) (some (.Name y py)) spos.line X.env = pure true) (hi : SI X Wx tg iter it) (L : LcP X tg elt ifs scope own g t m)
    (hs : ∀ x, foldedSetIterable iter X.env x = pure x := by intro _; rfl) : SS X Wx (.Assign [.Name y py] (.ListComp elt [⟨tg, iter, ifs, 0⟩] scope pos) spos) (sSet i (eLc it (own.map (·.2)) g t m)) := by
  refine ⟨ps_imp (ps_setLc (g := gSim X.K (own.map (·.2)) g) (tt := tSimT X.K W0 t) (te := tSim X.K W0 m) hc hN hy hyl hsw hi.pi L.ok (fun s H C cl fp => (L.g s H C cl fp).pg) (fun s H C cl fp => (L.t s H C cl fp).pts) (fun s H C cl fp => (L.e s H C cl fp).pe) hs) fun D σ H ⟨b, h, σm, e, S, l, q⟩ => ?_⟩
  refine lc_read ⟨b, h, σm, e, S, l, ?_⟩
  refine (PostS.st (rel := Rl X.K) l q).mono fun v H1 ⟨c, w, g, e, x, s, r, p⟩ => ?_
  subst e
  exact p c _ .refl s ((l.ext x).set i r)
end
end PM
/-! Sm6: defs by their mirrors; calls; a law's entry. -/
noncomputable section
namespace PM
open PySem PySem.Spec L2
open PyProof.Rows hiding St
/-- a def's mirror of its body's: np parameters, ns slots -/
def mkF (np ns : Nat) (body : SM) : FM := fun ws h => if ws.length = np then
    match body (ws.map some ++ List.replicate (ns - np) none) h with
    | .nx _ g => .ok .non g
    | .rt w g => .ok w g
    | .exc x _ g => .exc x g
    | _ => .stuck
  else .stuck
/-- the def at f does what m tells; no repr is under way where it is called -/
structure FnG (P : Program) (w : World) (K : PySem.W.Frag) (mg : Str → Option Value) (base : Heap) (k : Nat) (f : Addr) (fd : FuncData) (ps : List Str) (m : FM) : Prop where
  len : ∀ ws h, ws.length ≠ ps.length → m ws h = .stuck
  run : ∀ (A : Around) (outer : List Env) (s : Shared) (b : Bs) (h : MH) (args : Args) (us : List Value) (vs : List V) (ws : List W) (Q : VK) (E : XK), Room k A → A.guards = some [] → Env0 P w K mg base A outer s b.H → BindsTo s fd args (ps.zip us) → Vals vs us →
    Sim K b h → Rls K b ws vs → Post K (Rl K) E b Q (m ws h) → codeAny (model P w) A (.call (.ref f) args) (CR (L2.CX P w) outer P w b.H s Q E) s
theorem FnG.mono {P : Program} {w : World} {K : PySem.W.Frag} {mg : Str → Option Value} {base : Heap} {j k : Nat} {f : Addr} {fd : FuncData} {ps : List Str} {m : FM} (F : FnG P w K mg base j f fd ps m) (h : j ≤ k) : FnG P w K mg base k f fd ps m :=
  ⟨F.len, fun A outer s b g args us vs ws Q E hr => F.run A outer s b g args us vs ws Q E (hr.mono h)⟩
section
variable {P : Program} {w : World} {K : PySem.W.Frag} {mg : Str → Option Value} {base : Heap}
/-- the wish of a def's body -/
abbrev WxOf (E : XK) : WX := fun c d _ H => E c d H
theorem slots_start {b : Bs} {ws : List W} {vs : List V} {N : List Str} (r : Rls K b ws vs) : SlM K b (ws.map some ++ List.replicate (N.length - ws.length) none) (start N vs) := by
  unfold L2.start
  refine ⟨by simp [r.length], fun i w e => ?_⟩
  by_cases hi : i < ws.length
  · rw [List.getElem?_append_left (by simpa using hi), List.getElem?_map] at e
    cases ew : ws[i]? with
    | none => rw [ew] at e; cases e
    | some w' =>
      rw [ew] at e; cases e
      obtain ⟨v, hv, rv⟩ := r.get ew
      refine ⟨v, ?_, rv⟩
      rw [List.getElem?_append_left (by simp [← r.length]; exact hi), List.getElem?_map, hv]; rfl
  · rw [List.getElem?_append_right (by simpa using hi), List.getElem?_replicate] at e
    split at e <;> cases e
/-- a def by its body -/
theorem fnG_of {k : Nat} {f : Addr} {name qual : Str} {params : Arguments} {body : List Stmt} {scope : Scope} {dvs : List V} {kws : List (Str × V)} {fd : FuncData} {N ps : List Str} {m : SM} (F : FunD K name qual params body scope dvs kws f fd) (S : FnScope N ps scope)
    (hbody : ∀ (cdv : Value) (A : Around) (outer : List Env) (s : Shared) (H : Hp) (E : XK), Room k (A.deeper (envOfC qual scope s.heap.objs.size f cdv)) → (A.deeper (envOfC qual scope s.heap.objs.size f cdv)).guards = some [] →
      SSs (cxOf (L2.CX P w) P w K mg base N qual scope f cdv A outer s H E) (WxOf E) body m) : FnG P w K mg base (k + 1) f fd ps (mkF ps.length N.length m) := by
  obtain ⟨oc, od, dV, kV, doc, pm, an, cdv, ct, osl, rfl, lk, hcd, _, _⟩ := F.ex
  refine ⟨fun ws h e => if_neg e, fun A outer s b h args us vs ws Q E hr hg e0 hb rv sim rw q => ?_⟩
  unfold mkF at q
  by_cases hl : ws.length = ps.length
  case neg => rw [if_neg hl] at q; exact q.elim
  rw [if_pos hl] at q
  have hlv : vs.length = ps.length := by rw [← rw.length]; exact hl
  have kin : K.In s.heap := e0.mod.kin.keeps fun b o e => (e0.bs b o e).1
  have lim : s.heap.NoLimit := e0.mod.nolimit.keeps fun b o e => (e0.bs b o e).1
  have kinds : ∀ y ∈ ps.zip us, scope.names.lookup y.1 = some .local ∨ (scope.names.lookup y.1 = some .cell ∧ ((cellsFrom (s.heap.objs.size + 1) scope.names []).lookup y.1).isSome = true) := fun ⟨z, v⟩ hy =>
    (S.par z (List.of_mem_zip hy).1).elim .inl fun q => .inr ⟨q, PySem.W.cellsFrom_some _ _ _ (.inl q)⟩
  refine codeAny_call_function hr.depth (kin _ _ lk) rfl S.co S.gen rfl (PySem.W.codeRec_of kin hcd) (hb _ _ _ _ (wpAny_newFunctionEnv_cells S.kind kinds fun env he s1 x => ?_))
  subst he
  refine ⟨lim.keeps x.toInCall.keep, codeAny_func ?_⟩
  have B := hbody cdv A outer s b.H E (hr.deeper _) hg
  have I : Inv (cxOf (L2.CX P w) P w K mg base N qual scope f cdv A outer s b.H E) [] (start N vs) b.H s1 := inv_start S hr.hd e0 hlv rv x
  have run := B.ps.run [] s1 (start N vs) b.H { nx := fun _ H' => Q .non H', rt := Q } I ⟨b, h, _, rfl, sim, slots_start rw, (by
    rw [hl]
    cases eb : m (ws.map some ++ List.replicate (N.length - ps.length) none) h with
    | nx σm g => rw [eb] at q; exact fun c σ x s _ => q c .non x s .non
    | rt w g => rw [eb] at q; exact q
    | bk _ _ => rw [eb] at q; exact q.elim
    | ct _ _ => rw [eb] at q; exact q.elim
    | exc x σm g => rw [eb] at q; exact fun c σ d x s _ y => q c d x s y
    | stuck => rw [eb] at q; exact q)⟩
  refine wpAny_mono run (fun fl s' hs => ?_) fun e s' hs => hs
  have fin : ∀ {σ' : L2.St} {H' : Hp} {v : V} {u : Value}, Inv (cxOf (L2.CX P w) P w K mg base N qual scope f cdv A outer s b.H E) [] σ' H' s' → RelV v u → Q v H' → CE outer P w b.H s Q u s' :=
    fun {σ' H' v u} J rv q => ⟨v, H', J.os, J.bare, J.base, J.hok, rv, q⟩
  cases fl with
  | next => obtain ⟨σ', H', J, q⟩ := hs; exact fin (v := V.non) (u := Value.none) J rfl q
  | ret u => obtain ⟨v, σ', H', J, rv, q⟩ := hs; exact fin J rv q
  | brk => obtain ⟨_, _, _, q⟩ := hs; exact False.elim q
  | cont => obtain ⟨_, _, _, q⟩ := hs; exact False.elim q
end

section
variable {X : Cx} {Wx : WX} {k : Nat} {f : Addr} {fd : FuncData} {ps ks : List Str} {m : FM} {dvs : List V} {ds : List Value} {dws : List W} {x : Str} {p pos : Pos} {e : Expr} {es : List Expr} {kws : List Keyword} {n nk : AM}
/-- the callee runs, its arguments bound to the values us -/
theorem FnG.call (F : FnG X.prog X.w X.K X.mg X.base k f fd ps m) (hr : Room k X.A) (hg : X.A.guards = some []) (tk : Takes X Wx) {pins : List (Addr × Obj)} {σ : L2.St} {b : Bs} {h : MH} {s : Shared} {Q : VK} {us : List Value} {vs : List V} {ws : List W} {args : Args}
    (I : Inv X pins σ b.H s) (hb : us.length = ps.length → BindsTo s fd args (ps.zip us)) (rv : Vals vs us) (S : Sim X.K b h) (rw : Rls X.K b ws vs) (q : Post X.K (Rl X.K) (fun c d H' => Wx c d σ H') b Q (m ws h)) : codeAny (model X.prog X.w) X.A (.call (.ref f) args) (fun r s' => match r with
      | .ok (.ret u) => EP X pins σ Q u s'
      | .ok _ => False
      | .error e => X.xe e s') s := by
  have hl : us.length = ps.length := by
    rw [← rv.length, ← rw.length]
    exact Classical.byContradiction fun z => by rw [F.len ws h z] at q; exact q
  refine codeAny_mono (F.run X.A X.stack s b h args us vs ws Q (fun c d H' => Wx c d σ H') hr hg I.env0 (hb hl) rv S rw q) fun r s' hq => ?_
  cases r with
  | error e => exact tk e s' (XE.of_call I (fun _ _ _ z => z) hq)
  | ok fl => cases fl with
    | ret u => exact I.after hq
    | next => exact hq
    | brk => exact hq
    | cont => exact hq
theorem callAny_of {M : Model} {A : Around} {g : Value} {us : List Value} {kw : List (Str × Value)} {Q : Value → Shared → Prop} {E : Value → Shared → Prop} {s : Shared} (h : codeAny M A (.call g ⟨us, kw⟩) (fun r s' => match r with
      | .ok (.ret u) => Q u s'
      | .ok _ => False
      | .error e => E e s') s) : wpAny M A (call g us kw) Q E s := wpAny_call (codeAny_mono h fun r s' hq => by
  cases r with
  | error e => exact hq
  | ok fl => cases fl with
    | ret u => exact hq
    | next => exact hq.elim
    | brk => exact hq.elim
    | cont => exact hq.elim)
/-- f(e, ..) -/
theorem se_call (F : FnG X.prog X.w X.K X.mg X.base k f fd ps m) (hr : Room k X.A) (hgd : X.A.guards = some []) (tk : Takes X Wx) (hg : Gl X x) (hm : X.mg x = some (.ref f)) (hk : PySem.W.keepIn X.K (.ref f) = true) (hb : Binds X.K fd ps ds) (hd : Vals dvs ds) (hdw : ∀ b, Rls X.K b dws dvs)
    (ha : SA X Wx (e :: es) n) (hdb : (x == ("__debug__" : Str)) = false := by decide) (he : starEach (e :: es) X.env = (false, eval e X.env) :: starEach es X.env := by rfl) (hpl : (backTo pos (starEach es X.env)).any (·.1) = false := by rfl) :
    SE X Wx (.Call (.Name x p) (e :: es) [] pos) (eCall (fun ws => m (ws ++ dws)) n) := by
  refine ⟨⟨fun pins s σ H Q I q => ?_⟩⟩
  obtain ⟨b, h, σm, rfl, S, l, q⟩ := q
  refine wpAny_Call_Name_kw (ld_glob I hg hm ?_ hdb)
  refine PySem.W.callWith_K (h₀ := X.base) I.ok.mod.kin hk (thn (ha.run pos I S l (Post.bind q)) fun us s1 ⟨vs, H1, I1, r1, c1, ws, h1, e1, E1, S1, l1, q1⟩ => ?_) he hpl
  subst e1
  exact ⟨I1.kIn, callAny_of (F.call hr hgd tk I1 (fun hl => hb s1 us I1.kIn hl) (r1.append hd) S1 (l1.append (hdw _)) q1)⟩
/-- f() -/
theorem se_call0 (F : FnG X.prog X.w X.K X.mg X.base k f fd ps m) (hr : Room k X.A) (hgd : X.A.guards = some []) (tk : Takes X Wx) (hg : Gl X x) (hm : X.mg x = some (.ref f)) (hk : PySem.W.keepIn X.K (.ref f) = true) (hb : Binds X.K fd ps ds) (hd : Vals dvs ds) (hdw : ∀ b, Rls X.K b dws dvs)
    (hdb : (x == ("__debug__" : Str)) = false := by decide) : SE X Wx (.Call (.Name x p) [] [] pos) (eCall (fun ws => m (ws ++ dws)) aNil) := by
  refine ⟨⟨fun pins s σ H Q I q => ?_⟩⟩
  obtain ⟨b, h, σm, rfl, S, l, q⟩ := q
  refine wpAny_Call_Name_kw (ld_glob I hg hm ?_ hdb)
  exact PySem.W.callWith_K0 I.kIn hk (callAny_of (F.call (vs := dvs) (ws := dws) hr hgd tk I (fun hl => hb s [] I.kIn hl) (show Vals dvs ([] ++ ds) from hd) S (hdw _) q))
/-! ### keywords -/
def tSimK (K : PySem.W.Frag) (Wx : WX) (m : AM) : TA := tSimA K Wx m
structure SK (X : Cx) (Wx : WX) (kws : List Keyword) (m : AM) : Prop where
  pk : PK X kws (tSimA X.K Wx m)
theorem pk_imp {kws : List Keyword} {t u : TA} (h : PK X kws t) (m : ∀ σ H Q, u σ H Q → t σ H Q) : PK X kws u := ⟨fun pos pins s σ H Q I q => h.run pos pins s σ H Q I (m _ _ _ q)⟩
theorem sk_nil : SK X Wx [] aNil := ⟨pk_imp pk_nil fun σ H Q ⟨b, h, σm, e, S, l, q⟩ => by subst e; exact q.here S .nil⟩
theorem sk_cons {kpos : Pos} {nm : Option Str} {me : EM} (ha : SE X Wx e me) (hr : SK X Wx kws n) : SK X Wx (⟨nm, e, kpos⟩ :: kws) (aCons me n) := by
  refine ⟨pk_imp (pk_cons ha.pe hr.pk) fun σ H Q ⟨b, h, σm, e, S, l, q⟩ => ?_⟩
  refine ⟨b, h, σm, e, S, l, (Post.bind q).mono fun v H1 ⟨c, w, g, e, x, s, r, p⟩ => ?_⟩
  refine ⟨c, g, σm, e, s, l.ext x, (Post.bind p).mono fun vs H2 ⟨c2, ws, g2, e2, x2, s2, r2, p2⟩ => ?_⟩
  subst e2
  exact p2.here s2 (.cons (r.ext x2) r2)
/-- how a call with keywords binds: the positional values, the keywords' values (names ks), in the parameters' order -/
structure KbG (K : PySem.W.Frag) (fd : FuncData) (ps ks : List Str) (np : Nat) (g : List Value → List Value → List Value) (gV : List V → List V → List V) (gW : List W → List W → List W) : Prop where
  to : ∀ (s : Shared) (us ws : List Value), K.In s.heap → us.length = np → ws.length = ks.length → (g us ws).length = ps.length → BindsTo s fd ⟨us, ks.zip ws⟩ (ps.zip (g us ws))
  rel : ∀ {vs : List V} {us : List Value} {zs : List V} {ws : List Value}, Vals vs us → Vals zs ws → Vals (gV vs zs) (g us ws)
  relW : ∀ {b : Bs} {us ws : List W} {vs zs : List V}, Rls K b us vs → Rls K b ws zs → Rls K b (gW us ws) (gV vs zs)
variable {g : List Value → List Value → List Value} {gV : List V → List V → List V} {gW : List W → List W → List W} {np : Nat}
def eCallK (np nk : Nat) (m : List W → List W → MH → R W) (n k : AM) : EM := fun σ h => (n σ h).bind fun ws h1 => (k σ h1).bind fun zs h2 => if ws.length = np ∧ zs.length = nk then m ws zs h2 else .stuck
theorem run_kw (F : FnG X.prog X.w X.K X.mg X.base k f fd ps m) (hr : Room k X.A) (hgd : X.A.guards = some []) (tk : Takes X Wx) (hb : KbG X.K fd ps ks np g gV gW) {pins : List (Addr × Obj)} {σ : L2.St} {b : Bs} {h : MH} {s : Shared} {Q : VK} {us zs : List Value} {vs ys : List V} {ws xs : List W}
    (I : Inv X pins σ b.H s) (rv : Vals vs us) (ry : Vals ys zs) (S : Sim X.K b h) (rw : Rls X.K b ws vs) (rx : Rls X.K b xs ys) (q : Post X.K (Rl X.K) (fun c d H' => Wx c d σ H') b Q (if ws.length = np ∧ xs.length = ks.length then m (gW ws xs) h else .stuck)) :
    wpAny (model X.prog X.w) X.A (call (.ref f) us (ks.zip zs)) (EP X pins σ Q) X.xe s := by
  by_cases hl : ws.length = np ∧ xs.length = ks.length
  case neg => rw [if_neg hl] at q; exact q.elim
  rw [if_pos hl] at q
  exact callAny_of (F.call hr hgd tk I (fun hz => hb.to s us zs I.kIn (by rw [← rv.length, ← rw.length]; exact hl.1) (by rw [← ry.length, ← rx.length]; exact hl.2) hz) (hb.rel rv ry) S (hb.relW rw rx) q)
theorem se_callK (F : FnG X.prog X.w X.K X.mg X.base k f fd ps m) (hr : Room k X.A) (hgd : X.A.guards = some []) (tk : Takes X Wx) (hg : Gl X x) (hm : X.mg x = some (.ref f)) (hk : PySem.W.keepIn X.K (.ref f) = true) (hb : KbG X.K fd ps ks np g gV gW)
    (ha : SA X Wx (e :: es) n) (hkw : SK X Wx kws nk) (hall : (backToKw pos (keywordEach kws X.env)).all (·.1.isSome) = true := by rfl) (hks : (backToKw pos (keywordEach kws X.env)).filterMap (·.1) = ks := by rfl)
    (hdb : (x == ("__debug__" : Str)) = false := by decide) (he : starEach (e :: es) X.env = (false, eval e X.env) :: starEach es X.env := by rfl)
    (hpl : ((backTo pos (starEach (e :: es) X.env)).any (·.1) || (backToKw pos (keywordEach kws X.env)).any (·.1.isNone)) = false := by rfl) :
    SE X Wx (.Call (.Name x p) (e :: es) kws pos) (eCallK np ks.length (fun ws zs => m (gW ws zs)) n nk) := by
  refine ⟨⟨fun pins s σ H Q I q => ?_⟩⟩
  obtain ⟨b, h, σm, rfl, S, l, q⟩ := q
  refine wpAny_Call_Name_kw (ld_glob I hg hm ?_ hdb)
  refine PySem.W.callWith_KW (h₀ := X.base) I.ok.mod.kin hk hall (thn (ha.run pos I S l (Post.bind q)) fun us s1 ⟨vs, H1, I1, r1, c1, ws, h1, e1, E1, S1, l1, q1⟩ => ?_) hpl he
  subst e1
  refine thn (hkw.pk.run pos pins s1 σ _ _ I1 ⟨c1, h1, σm, rfl, S1, l.ext E1, Post.bind q1⟩) fun zs s2 ⟨ys, H2, I2, r2, c2, xs, h2, e2, E2, S2, l2, q2⟩ => ?_
  subst e2
  refine ⟨I2.kIn, ?_⟩
  rw [hks]
  exact run_kw F hr hgd tk hb I2 r1 r2 S2 (l1.ext E2) l2 q2
end
end PM
/-! Sm7: a law's entry. -/
noncomputable section
namespace PM
open PySem PySem.Spec L2
open PyProof.Rows hiding St
/-- the mirror's heap at a law's entry: the script -/
def script0 (ns : List Int) : MH := [.ro (ns.map W.int)]
theorem rls_ints {K : PySem.W.Frag} {b : Bs} : ∀ ns : List Int, Rls K b (ns.map W.int) (ns.map V.int)
  | [] => .nil
  | z :: zs => .cons (.int z) (rls_ints zs)
/-- the law's run from its mirror's -/
theorem law_mirror {P : Program} {w : World} {K : PySem.W.Frag} {mg mb : Str → Option Value} {k : Nat} {fa a : Addr} {fd : FuncData} {x : Str} {m : FM} {s₁ : Shared} {vs : List Value} {ns : List Int}
    (KX : K.In s₁.heap) (hns : s₁.heap.Ns mainGlobals mg) (hb : s₁.heap.Ns builtinsNs mb) (hbb : ∀ x : Str, x ≠ "__name__" → mb x = bootBuiltins x) (hlim : s₁.heap.NoLimit) (hg : s₁.gens = #[])
    (ha : s₁.heap.get? a = some { cls := .type "list", data := .seq vs.toArray }) (hi : IntsAre vs ns) (hl : ns.length ≤ sizeLine) (hr : Room k callerA)
    (F : ∀ base : Heap, K.In base → base.Ns mainGlobals mg → FnG P w K mg base k fa fd [x] m) (hbind : ∀ (s : Shared) (u : Value), BindsTo s fd ⟨[u], []⟩ [(x, u)])
    (hm : ∃ h, m [.ref 0] (script0 ns) = .ok (.bl true) h) :
    codeAny (model P w) callerA (.call (.ref fa) ⟨[.ref a], []⟩) (fun r s' => r = .ok (.ret (.bool true)) ∧ OldK s₁.heap s'.heap ∧ s'.os = s₁.os ∧ AllBare s'.gens) s₁ := by
  obtain ⟨hEnd, hm⟩ := hm
  have vint := vals_ints hi
  have lens := hi.length
  -- whatever is tracked: nothing, or the script, locked
  have main : ∀ H : Hp, (∀ b, H b = none ∨ ∃ o xs, H b = some (.frz o (.lst xs))) → (∀ b, H b ≠ none → b = a ∧ K.lookup a = none) → HOk P w H s₁.heap → ((∃ o, H a = some (.frz o (.lst (ns.map V.int)))) ∨ SqL K (fun _ => none) a (ns.map V.int)) →
      codeAny (model P w) callerA (.call (.ref fa) ⟨[.ref a], []⟩) (fun r s' => r = .ok (.ret (.bool true)) ∧ OldK s₁.heap s'.heap ∧ s'.os = s₁.os ∧ AllBare s'.gens) s₁ := by
    intro H only onlyA hok hS
    have free : ∀ {b : Addr} {o : Obj}, s₁.heap.get? b = some o → H b = none → (hidT s₁.heap H).get? b = some o := fun e n => hidT_get e n
    have noDict : ∀ {b : Addr} {o : Obj} {es : Array DictEntry} {ep : Nat}, s₁.heap.get? b = some o → o.data = .dict es ep → H b = none := fun {b o es ep} e d => Classical.byContradiction fun q => by
      have z := (onlyA b q).1
      subst z
      rw [ha] at e; cases e
      have d' : Data.seq vs.toArray _ = Data.dict es ep := d
      cases d'
    have nsH : ∀ {b : Addr} {m : Str → Option Value}, s₁.heap.Ns b m → (hidT s₁.heap H).Ns b m := fun {b m} ⟨o, es, ep, e, d, r⟩ => ⟨o, es, ep, free e (noDict e d), d, r⟩
    have kinH : K.In (hidT s₁.heap H) := fun b o e => free (KX b o e) (Classical.byContradiction fun q => by
      obtain ⟨z, n⟩ := onlyA b q
      subst z
      rw [n] at e; cases e)
    have M : Mod K mg (hidT s₁.heap H) := ⟨kinH, nsH hns, ⟨mb, nsH hb, hbb⟩, let ⟨mc, h1, h2⟩ := hlim; ⟨mc, nsH h1, h2⟩⟩
    have e0 : Env0 P w K mg (hidT s₁.heap H) callerA [] s₁ H := ⟨rfl, M, fun b o e => of_hidT e, Nat.le_of_eq (hidT_size _ _), trivial, fun b hb => (List.not_mem_nil hb).elim, hok, .of_eq hg⟩
    have sim : Sim K ⟨fun _ => a, 1, H, fun _ => none⟩ (script0 ns) := by
      refine ⟨rfl, fun i o e => ?_, fun i j o u e e' hr _ _ => ?_, fun _ _ e => (by cases e), fun _ _ _ _ => rfl⟩
      · cases i with
        | zero =>
          cases e
          exact ⟨ns.map V.int, hS, rls_ints ns⟩
        | succ i => cases e
      · cases i with
        | zero => cases e; cases hr
        | succ i => cases e
    refine codeAny_mono ((F _ kinH (nsH hns)).run callerA [] s₁ ⟨fun _ => a, 1, H, fun _ => none⟩ (script0 ns) ⟨[.ref a], []⟩ [.ref a] [.ref a] [.ref 0] (fun v _ => v = .bl true) (fun _ _ _ => False) hr rfl e0 (hbind s₁ (.ref a)) (.cons rfl .nil) sim (.cons (.ref 0 (Nat.lt_succ_self 0)) .nil) (by
      rw [hm]
      intro c v _ _ r
      cases r
      rfl)) fun r s' h => ?_
    cases r with
    | error e =>
      obtain ⟨_, _, _, _, _, _, _, _, _, _, _, _, z⟩ := h
      exact z.elim
    | ok fl =>
      cases fl with
      | next => exact False.elim h
      | brk => exact False.elim h
      | cont => exact False.elim h
      | ret u =>
        obtain ⟨v, H', os, bare, un, hok', r', q⟩ := h
        cases q
        cases (show u = Value.bool true from r')
        refine ⟨rfl, OldK.of_keep fun b o e => ?_, os, bare⟩
        cases q : H b with
        | none => exact un.keep b o e q (fun z => List.not_mem_nil z) (fun z => List.not_mem_nil z)
        | some u =>
          rcases only b with z | ⟨ob, xs, z⟩
          · rw [q] at z; cases z
          · have z2 := un.frzs b ob _ z
            have e1 := (show _ ∧ _ from hok b _ z).1
            have e2 := (show _ ∧ _ from hok' b _ z2).1
            rw [e] at e1; cases e1
            exact e2
  cases hk : K.lookup a with
  | some o =>
    have e := KX a o hk
    rw [ha] at e
    cases e
    exact main (fun _ => none) (fun _ => .inl rfl) (fun _ z => absurd rfl z) (fun b u z => nomatch (show (none : Option HO) = some u from z)) (.inr (.inr ⟨_, vs.toArray, _, hk, rfl, rfl, rfl, by rw [List.size_toArray, lens]; exact hl, by simpa using vint⟩))
  | none =>
    refine main (fun b => if b = a then some (.frz { cls := .type "list", data := .seq vs.toArray } (.lst (ns.map V.int))) else none) (fun b => ?_) (fun b z => ?_) (fun b u z => ?_) (.inl ⟨{ cls := .type "list", data := .seq vs.toArray }, if_pos rfl⟩)
    · by_cases q : b = a
      · exact .inr ⟨_, _, if_pos q⟩
      · exact .inl (if_neg q)
    · exact Classical.byContradiction fun q => by
        by_cases e : b = a
        · exact q ⟨e, hk⟩
        · exact z (if_neg e)
    · by_cases q : b = a
      · subst q
        cases (if_pos rfl).symm.trans z
        exact ⟨ha, by rw [List.length_map]; exact hl, vs, _, vint, ha⟩
      · cases (if_neg q).symm.trans z
/-- a law by its mirror -/
theorem walk_mirror {l : PySem.W.OpenLaw} {n k : Nat} {q : Program} {loose : List Str} {XP : (Str → Option Value) → Heap → Prop} {YP : World → Heap → Prop} {d : DefRec} {x : Str}
    (hn : l.most = some n) (hn2 : n ≤ sizeLine) (hdf : d.params.defaults = []) (hr : Room k callerA)
    (F : ∀ (w : World) (mg : Str → Option Value) (fa : Addr) (h : Heap), YP w h → h.Ns mainGlobals mg → mg d.name = some (.ref fa) →
      ∃ (K : PySem.W.Frag) (fd : FuncData) (m : FM), K.In h ∧ (∀ (s : Shared) (u : Value), BindsTo s fd ⟨[u], []⟩ [(x, u)]) ∧
        (∀ ns : List Int, ns.length ≤ n → (∀ z ∈ ns, Builtin.Int.intBits z ≤ 1048576) → ∃ g, m [.ref 0] (script0 ns) = .ok (.bl true) g) ∧
        ∀ base : Heap, K.In base → base.Ns mainGlobals mg → FnG l.prog w K mg base k fa fd [x] m) :
    PySem.W.WalkO q loose XP YP l.row.toRowW d [] (fun f vs => PySem.call f vs) := by
  refine Att.attach_callB hn hdf fun w s₀ s₁ mg mb fa o pm cd doc a vs ns G Y ho hd hcd hmg hobj hints hlen hbits hg => ?_
  obtain ⟨K, fd, m, KX, hb, hm, hF⟩ := F w mg fa _ Y G.T.g hmg
  exact law_mirror KX G.T.g G.T.b G.T.builtins G.T.nolimit hg hobj hints (Nat.le_trans hlen hn2) hr hF hb (hm ns hlen hbits)
end PM
/-! Sm8: operators, comparisons, subscripts. -/
noncomputable section
namespace PM
open PySem PySem.Spec L2
open PyProof.Rows hiding St
/-! ### one rule or another -/
def opAlt (m n : W → W → MH → R W) : W → W → MH → R W := fun x y h => match m x y h with
  | .stuck => n x y h
  | r => r
def clAlt (m n : List W → MH → R W) : List W → MH → R W := fun ws h => match m ws h with
  | .stuck => n ws h
  | r => r
def eAlt (m n : EM) : EM := fun σ h => match m σ h with
  | .stuck => n σ h
  | r => r
section
variable {X : Cx} {Wx : WX}
theorem OpS.alt {f : Value → Value → Sem Value} {m n : W → W → MH → R W} (a : OpS X Wx f m) (c : OpS X Wx f n) : OpS X Wx f (opAlt m n) := by
  refine ⟨fun pins s σ b h x y x' y' v u Q I S r1 r2 rv ru q => ?_⟩
  unfold opAlt at q
  cases e : m x y h with
  | ok w g => rw [e] at q; exact a.run pins s σ b h x y x' y' v u Q I S r1 r2 rv ru (by rw [e]; exact q)
  | exc w g => rw [e] at q; exact a.run pins s σ b h x y x' y' v u Q I S r1 r2 rv ru (by rw [e]; exact q)
  | stuck => rw [e] at q; exact c.run pins s σ b h x y x' y' v u Q I S r1 r2 rv ru q
theorem CallS.alt {f : Value} {m n : List W → MH → R W} (a : CallS X Wx f m) (c : CallS X Wx f n) : CallS X Wx f (clAlt m n) := by
  refine ⟨fun pins s σ b h ws vs us Q I S r1 rv q => ?_⟩
  unfold clAlt at q
  cases e : m ws h with
  | ok w g => rw [e] at q; exact a.run pins s σ b h ws vs us Q I S r1 rv (by rw [e]; exact q)
  | exc w g => rw [e] at q; exact a.run pins s σ b h ws vs us Q I S r1 rv (by rw [e]; exact q)
  | stuck => rw [e] at q; exact c.run pins s σ b h ws vs us Q I S r1 rv q
theorem se_alt {e : Expr} {m n : EM} (a : SE X Wx e m) (c : SE X Wx e n) : SE X Wx e (eAlt m n) := by
  refine ⟨⟨fun pins s σ H Q I ⟨b, h, σm, eH, S, l, q⟩ => ?_⟩⟩
  unfold eAlt at q
  cases e : m σm h with
  | ok w g => rw [e] at q; exact a.pe.run pins s σ H Q I ⟨b, h, σm, eH, S, l, by rw [e]; exact q⟩
  | exc w g => rw [e] at q; exact a.pe.run pins s σ H Q I ⟨b, h, σm, eH, S, l, by rw [e]; exact q⟩
  | stuck => rw [e] at q; exact c.pe.run pins s σ H Q I ⟨b, h, σm, eH, S, l, q⟩
end
/-! ### arithmetic -/
def iOp (C : Int → Int → Bool) (g : Int → Int → W) : W → W → MH → R W
  | .int i, .int j, h => if C i j then .ok (g i j) h else .stuck
  | _, _, _ => .stuck
section
variable {X : Cx} {Wx : WX}
theorem os_int {f : Value → Value → Sem Value} {Cp : Int → Int → Prop} {C : Int → Int → Bool} {g : Int → Int → V} {gw : Int → Int → W} (ho : OpR X f (rI Cp g)) (hC : ∀ i j, C i j = true → Cp i j) (hg : ∀ i j b, Rl X.K b (gw i j) (g i j)) : OpS X Wx f (iOp C gw) :=
  .of ho fun σ b h x y x' y' Q S r1 r2 q => by
    cases r1 <;> first | exact q.elim | skip
    cases r2 <;> first | exact q.elim | skip
    rename_i i j
    unfold iOp at q
    dsimp only at q
    split at q
    · rename_i hc
      exact ⟨i, j, rfl, rfl, hC i j hc, q.here S (hg i j b)⟩
    · exact q.elim
theorem os_int0 {f : Value → Value → Sem Value} {g : Int → Int → V} {gw : Int → Int → W} (ho : OpR X f (rI0 g)) (hg : ∀ i j b, Rl X.K b (gw i j) (g i j)) : OpS X Wx f (iOp (fun _ _ => true) gw) :=
  .of ho fun σ b h x y x' y' Q S r1 r2 q => by
    cases r1 <;> first | exact q.elim | skip
    cases r2 <;> first | exact q.elim | skip
    rename_i i j
    exact ⟨i, j, rfl, rfl, q.here S (hg i j b)⟩
/-- +: ints, texts, lists -/
def bAdd : W → W → MH → R W
  | .int i, .int j, h => .ok (.int (i + j)) h
  | .str x, .str y, h => if x.length + y.length ≤ sizeLine then .ok (.str (x ++ y)) h else .stuck
  | x, y, h => match mlW h x, mlW h y with
    | some xs, some ys => if xs.length + ys.length ≤ sizeLine then .ok (.ref h.length) (h ++ [.lst (xs ++ ys)]) else .stuck
    | _, _ => .stuck
theorem os_add : OpS X Wx (binaryOp .Add) bAdd := .of (op_add.or (op_add_str.or op_cat)) fun σ b h x y x' y' Q S r1 r2 q => by
  unfold bAdd at q
  split at q
  · cases r1; cases r2; exact .inl ⟨_, _, rfl, rfl, q.here S (.int _)⟩
  · cases r1; cases r2
    split at q
    · rename_i hz; exact .inr (.inl ⟨_, _, rfl, rfl, hz, q.here S (.str _)⟩)
    · exact q.elim
  · split at q
    · rename_i xs ys e1 e2
      split at q
      · rename_i hz
        obtain ⟨_, vs, rfl, a1, a2⟩ := S.mlW r1 e1
        obtain ⟨_, us, rfl, c1, c2⟩ := S.mlW r2 e2
        exact .inr (.inr ⟨_, _, vs, us, rfl, rfl, a1, c1, by rw [← a2.length, ← c2.length]; exact hz, fun p hp => Post.lst S (a2.append c2) q hp⟩)
      · exact q.elim
    · exact q.elim
def bSub : W → W → MH → R W := iOp (fun _ _ => true) fun i j => .int (i - j)
theorem os_sub : OpS X Wx (binaryOp .Sub) bSub := os_int0 op_sub fun i j b => .int _
/-- *: ints; a text or a list by an int -/
def bMul : W → W → MH → R W
  | .int i, .int j, h => if i.natAbs.log2 + j.natAbs.log2 < 1000000 then .ok (.int (i * j)) h else .stuck
  | .str x, .int k, h => @ite _ (-(2 ^ 63) ≤ k ∧ k < 2 ^ 63 ∧ x.length * k.toNat ≤ sizeLine) (Classical.propDecidable _) (.ok (.str ⟨(List.replicate k.toNat x.cps.toList).flatten.toArray⟩) h) .stuck
  | x, .int k, h => match mlW h x with
    | some xs => @ite _ (-(2 ^ 63) ≤ k ∧ k < 2 ^ 63 ∧ xs.length * k.toNat ≤ sizeLine) (Classical.propDecidable _) (.ok (.ref h.length) (h ++ [.lst (List.replicate k.toNat xs).flatten])) .stuck
    | none => .stuck
  | _, _, _ => .stuck
theorem fold_app (k : Nat) (a : Array Nat) : ∀ acc : Array Nat, ((List.replicate k a).foldl (· ++ ·) acc).toList = acc.toList ++ (List.replicate k a.toList).flatten := by
  induction k with
  | zero => intro acc; simp
  | succ k ih =>
    intro acc
    rw [List.replicate_succ, List.foldl_cons, ih, List.replicate_succ, List.flatten_cons]
    simp
theorem op_rep_str : OpR X (binaryOp .Mult) (fun x y H Q => ∃ z k, x = .str z ∧ y = .int k ∧ (-(2 ^ 63) ≤ k ∧ k < 2 ^ 63 ∧ z.length * k.toNat ≤ sizeLine) ∧ Q (.str ⟨(List.replicate k.toNat z.cps.toList).flatten.toArray⟩) H) := by
  intro pins s σ H x y v u Q I rx ry h
  obtain ⟨z, k, rfl, rfl, ⟨h1, h2, h3⟩, q⟩ := h
  obtain ⟨t, rfl⟩ := rx
  obtain ⟨t', rfl⟩ := ry
  have line : (sizeLine : Nat) = 16777216 := sizeLine_eq
  have fin : ∀ (x : Str) (tk : Tok) (s' : Shared), Inv X pins σ H s' → x = ⟨(List.replicate k.toNat z.cps.toList).flatten.toArray⟩ → EP X pins σ Q (.str x tk) s' := fun x tk s' I' e => ⟨.str x, H, I', ⟨tk, rfl⟩, by rw [e]; exact q⟩
  refine PySem.P.mul_str ?_ ?_ ?_ ?_
  · rw [Bool.or_eq_false_iff]
    exact ⟨decide_eq_false (by omega), decide_eq_false (by omega)⟩
  · intro g1 g2 g3
    have k1 : 1 ≤ k := by omega
    have := Int.ediv_lt_of_lt_mul (show (0 : Int) < k by omega) (show (2 ^ 63 - 1 : Int) < ((2 ^ 63 - 1) / k + 1) * k by
      have := Int.emod_add_mul_ediv (2 ^ 63 - 1) k
      have := Int.emod_lt_of_pos (2 ^ 63 - 1) (show (0 : Int) < k by omega)
      rw [Int.add_mul, Int.one_mul, Int.mul_comm]
      omega)
    have z1 : (z.length : Int) * k ≤ 16777216 := by
      have : ((z.length * k.toNat : Nat) : Int) ≤ 16777216 := by omega
      rw [Int.natCast_mul] at this
      rw [Int.toNat_of_nonneg (by omega)] at this
      exact this
    have z2 : (z.length : Int) ≤ (2 ^ 63 - 1) / k := Int.le_ediv_of_mul_le (by omega) (by omega)
    omega
  · intro g1 g2
    exact decide_eq_false (show ¬ _ > _ by omega)
  · by_cases g1 : k < 1
    · rw [if_pos g1]
      refine ⟨by decide, fin _ _ _ (I.tok _) ?_⟩
      rw [show k.toNat = 0 by omega]
      rfl
    · rw [if_neg g1]
      by_cases g2 : (k == 1 || z.length == 0) = true
      · rw [if_pos g2]
        refine fin _ _ _ I ?_
        rcases Bool.or_eq_true_iff.mp g2 with g | g
        · have : k = 1 := by simpa using g
          subst this
          obtain ⟨⟨l⟩⟩ := z
          simp
        · have g0 : z.length = 0 := by simpa using g
          obtain ⟨⟨l⟩⟩ := z
          have : l = [] := List.eq_nil_of_length_eq_zero (by simpa [Str.length] using g0)
          subst this
          simp
      · rw [if_neg g2]
        refine ⟨?_, fin _ _ _ (I.tok _) ?_⟩
        · have e := congrArg List.length (fold_app k.toNat z.cps #[])
          simp only [Array.toList_empty, List.nil_append, List.length_flatten, List.map_replicate, List.sum_replicate_nat, Array.length_toList] at e
          show Array.size _ ≤ _
          rw [e, Nat.mul_comm]
          exact h3
        · have e := fold_app k.toNat z.cps #[]
          simp only [Array.toList_empty, List.nil_append] at e
          rw [← e]
theorem os_mul : OpS X Wx (binaryOp .Mult) bMul := .of (op_mulW.or (op_rep_str.or op_rep)) fun σ b h x y x' y' Q S r1 r2 q => by
  unfold bMul at q
  split at q
  · cases r1; cases r2
    split at q
    · rename_i hz; exact .inl ⟨_, _, rfl, rfl, hz, q.here S (.int _)⟩
    · exact q.elim
  · cases r1; cases r2
    split at q
    · rename_i hz; exact .inr (.inl ⟨_, _, rfl, rfl, hz, q.here S (.str _)⟩)
    · exact q.elim
  · cases r2
    split at q
    · rename_i xs e1
      split at q
      · rename_i hz
        obtain ⟨_, vs, rfl, a1, a2⟩ := S.mlW r1 e1
        have rr : ∀ n : Nat, Rls X.K b (List.replicate n xs).flatten (List.replicate n vs).flatten := fun n => by
          induction n with
          | zero => exact .nil
          | succ n ih => rw [List.replicate_succ, List.replicate_succ, List.flatten_cons, List.flatten_cons]; exact a2.append ih
        exact .inr (.inr ⟨_, _, vs, rfl, rfl, a1, hz.1, hz.2.1, by rw [← a2.length]; exact hz.2.2, fun p hp => Post.lst S (rr _) q hp⟩)
      · exact q.elim
    · exact q.elim
  · exact q.elim
/-- //, %: by a positive int -/
def bDiv : W → W → MH → R W := iOp (fun _ j => decide (0 < j ∧ j.natAbs.log2 < 9000)) fun i j => .int (i / j)
theorem os_div : OpS X Wx (binaryOp .FloorDiv) bDiv := os_int op_fdivW (fun i j h => of_decide_eq_true (p := 0 < j ∧ j.natAbs.log2 < 9000) h) fun i j b => .int _
def bMod : W → W → MH → R W := iOp (fun _ j => decide (0 < j)) fun i j => .int (i % j)
theorem os_mod : OpS X Wx (binaryOp .Mod) bMod := os_int op_mod (fun i j h => of_decide_eq_true (p := 0 < j) h) fun i j b => .int _
def bPow : W → W → MH → R W := iOp (fun i j => decide (0 ≤ j ∧ j ≤ 1000000 ∧ i.natAbs < 2 ^ 64)) fun i j => .int (i ^ j.toNat)
theorem os_pow : OpS X Wx (binaryOp .Pow) bPow := os_int op_pow (fun i j h => of_decide_eq_true (p := 0 ≤ j ∧ j ≤ 1000000 ∧ i.natAbs < 2 ^ 64) h) fun i j b => .int _
/-! ### order -/
def bLt : W → W → MH → R W
  | .int i, .int j, h => .ok (.bl (decide (i < j))) h
  | .str x, .str y, h => .ok (.bl (decide (x.cps.toList < y.cps.toList))) h
  | _, _, _ => .stuck
def bLe : W → W → MH → R W
  | .int i, .int j, h => .ok (.bl (decide (i ≤ j))) h
  | .str x, .str y, h => .ok (.bl (!decide (y.cps.toList < x.cps.toList))) h
  | _, _, _ => .stuck
def bGt : W → W → MH → R W
  | .int i, .int j, h => .ok (.bl (decide (j < i))) h
  | _, _, _ => .stuck
def bGe : W → W → MH → R W
  | .int i, .int j, h => .ok (.bl (decide (j ≤ i))) h
  | _, _, _ => .stuck
theorem os_lt : OpS X Wx (compareOp .Lt) bLt := .of (op_lt.or op_lt_str) fun σ b h x y x' y' Q S r1 r2 q => by
  unfold bLt at q
  split at q
  · cases r1; cases r2; exact .inl ⟨_, _, rfl, rfl, q.here S (.bl _)⟩
  · cases r1; cases r2; exact .inr ⟨_, _, rfl, rfl, q.here S (.bl _)⟩
  · exact q.elim
theorem os_le : OpS X Wx (compareOp .LtE) bLe := .of (op_le.or op_le_str) fun σ b h x y x' y' Q S r1 r2 q => by
  unfold bLe at q
  split at q
  · cases r1; cases r2; exact .inl ⟨_, _, rfl, rfl, q.here S (.bl _)⟩
  · cases r1; cases r2; exact .inr ⟨_, _, rfl, rfl, q.here S (.bl _)⟩
  · exact q.elim
theorem os_gt : OpS X Wx (compareOp .Gt) bGt := .of op_gt fun σ b h x y x' y' Q S r1 r2 q => by
  unfold bGt at q
  split at q
  · cases r1; cases r2; exact ⟨_, _, rfl, rfl, q.here S (.bl _)⟩
  · exact q.elim
theorem os_ge : OpS X Wx (compareOp .GtE) bGe := .of op_ge fun σ b h x y x' y' Q S r1 r2 q => by
  unfold bGe at q
  split at q
  · cases r1; cases r2; exact ⟨_, _, rfl, rfl, q.here S (.bl _)⟩
  · exact q.elim
end
end PM
/-! Sm9: data, == and repr; is, in; subscripts, slices; built-ins. -/
noncomputable section
namespace PM
open PySem PySem.Spec L2
open PyProof.Rows hiding St
/-! ### data -/
def mapO {α β : Type} (f : α → Option β) : List α → Option (List β)
  | [] => some []
  | x :: xs => (f x).bind fun y => (mapO f xs).bind fun ys => some (y :: ys)
/-- data without dicts, of nesting below the first argument -/
def dataW (h : MH) : Nat → W → Option PyData
  | _, .non => some .none
  | _, .bl k => some (.bool k)
  | _, .int i => some (.int i)
  | _, .str x => some (.str x)
  | 0, _ => none
  | n + 1, .tup xs => (mapO (dataW h n) xs).map .tuple
  | n + 1, .ref i => (lstAt h i).bind fun xs => (mapO (dataW h n) xs).map .list
  | n + 1, .vl xs => (mapO (dataW h n) xs).map .list
  | _, _ => none
theorem dpAll_of {K : PySem.W.Frag} {b : Bs} {f : W → Option PyData} (ih : ∀ w v d, f w = some d → Rl K b w v → Dp K b.H v d) : ∀ {ws : List W} {vs : List V} {ds : List PyData}, mapO f ws = some ds → Rls K b ws vs → DpAll K b.H vs ds
  | [], _, _, e, .nil => by cases e; exact .nil
  | w :: ws, _, ds, e, .cons r rr => by
    unfold mapO at e
    cases e1 : f w with
    | none => rw [e1] at e; cases e
    | some d =>
      rw [e1] at e
      cases e2 : mapO f ws with
      | none => rw [e2] at e; cases e
      | some es => rw [e2] at e; cases e; exact .cons (ih _ _ _ e1 r) (dpAll_of ih e2 rr)
theorem dp_of {K : PySem.W.Frag} {b : Bs} {h : MH} (S : Sim K b h) : ∀ (n : Nat) (w : W) (v : V) (d : PyData), dataW h n w = some d → Rl K b w v → Dp K b.H v d := by
  intro n
  induction n with
  | zero =>
    intro w v d e r
    cases r <;> first | (simp [dataW] at e; done) | (simp only [dataW, Option.some.injEq] at e; subst e; constructor)
  | succ n ih =>
    intro w v d e r
    cases r with
    | tup a ws vs hs rr =>
      simp only [dataW, Option.map_eq_some_iff] at e
      obtain ⟨ds, e, rfl⟩ := e
      exact .tup hs (dpAll_of ih e rr)
    | ref i hi =>
      simp only [dataW] at e
      cases el : lstAt h i with
      | none => rw [el] at e; cases e
      | some xs =>
        rw [el] at e
        simp only [Option.bind_some, Option.map_eq_some_iff] at e
        obtain ⟨ds, e, rfl⟩ := e
        obtain ⟨vs, h1, rr, _⟩ := S.list el
        exact .lst h1 (dpAll_of ih e rr)
    | vl a ws vs z rr =>
      simp only [dataW, Option.map_eq_some_iff] at e
      obtain ⟨ds, e, rfl⟩ := e
      exact .lst (S.zl z) (dpAll_of ih e rr)
    | _ => first | (simp [dataW] at e; done) | (simp only [dataW, Option.some.injEq] at e; subst e; constructor)
/-- flat things of kinds that the layer's == takes -/
def eqFlat : W → W → Option Bool
  | .non, .non => some true
  | .bl a, .bl b => some (a == b)
  | .int a, .int b => some (a == b)
  | .str a, .str b => some (a == b)
  | .non, .int _ => some false
  | .int _, .non => some false
  | .non, .bl _ => some false
  | .bl _, .non => some false
  | .non, .str _ => some false
  | .str _, .non => some false
  | .int _, .str _ => some false
  | .str _, .int _ => some false
  | .bl _, .str _ => some false
  | .str _, .bl _ => some false
  | _, _ => none
theorem eqFlat_ok {K : PySem.W.Frag} {b : Bs} {x y : W} {x' y' : V} {r : Bool} (r1 : Rl K b x x') (r2 : Rl K b y y') (e : eqFlat x y = some r) : scal x' y' = true ∧ decide (x' = y') = r := by
  cases r1 <;> cases r2 <;> first | cases e | skip
  all_goals refine ⟨rfl, ?_⟩
  all_goals first | rfl | (simp; done) | exact dec_int | exact dec_bl | exact dec_str
/-- ==, != of flat things, of data -/
def bEq : W → W → MH → R W := fun x y h => match eqFlat x y with
  | some r => .ok (.bl r) h
  | none => match dataW h 20 x, dataW h 20 y with
    | some d, some e => if SeqAt.shaped d = true ∧ SeqAt.shaped e = true then .ok (.bl (PyData.eqv d e)) h else .stuck
    | _, _ => .stuck
def bNe : W → W → MH → R W := fun x y h => match eqFlat x y with
  | some r => .ok (.bl (!r)) h
  | none => match dataW h 20 x, dataW h 20 y with
    | some d, some e => if SeqAt.shaped d = true ∧ SeqAt.shaped e = true then .ok (.bl (!PyData.eqv d e)) h else .stuck
    | _, _ => .stuck
section
variable {X : Cx} {Wx : WX} {k : Nat}
theorem os_eq (hr : Room k X.A) : OpS X Wx (compareOp .Eq) bEq := .of (op_eq.or (op_eqD hr.units)) fun σ b h x y x' y' Q S r1 r2 q => by
  unfold bEq at q
  split at q
  · rename_i r e
    obtain ⟨e1, e2⟩ := eqFlat_ok r1 r2 e
    exact .inl ⟨e1, by rw [e2]; exact q.here S (.bl _)⟩
  · split at q
    · rename_i d e h1 h2
      split at q
      · rename_i hz; exact .inr ⟨d, e, dp_of S _ _ _ _ h1 r1, dp_of S _ _ _ _ h2 r2, hz.1, hz.2, q.here S (.bl _)⟩
      · exact q.elim
    · exact q.elim
theorem os_ne (hr : Room k X.A) : OpS X Wx (compareOp .NotEq) bNe := .of (op_ne.or (op_neD hr.units)) fun σ b h x y x' y' Q S r1 r2 q => by
  unfold bNe at q
  split at q
  · rename_i r e
    obtain ⟨e1, e2⟩ := eqFlat_ok r1 r2 e
    exact .inl ⟨e1, by rw [e2]; exact q.here S (.bl _)⟩
  · split at q
    · rename_i d e h1 h2
      split at q
      · rename_i hz; exact .inr ⟨d, e, dp_of S _ _ _ _ h1 r1, dp_of S _ _ _ _ h2 r2, hz.1, hz.2, q.here S (.bl _)⟩
      · exact q.elim
    · exact q.elim
/-! ### is -/
def isV : W → W → Option Bool
  | .non, .non => some true
  | .bl a, .bl b => some (decide (a = b))
  | .non, _ => none
  | _, .non => some false
  | _, _ => none
def bIs : W → W → MH → R W := fun x y h => match isV x y with
  | some k => .ok (.bl k) h
  | none => .stuck
def bNot : W → W → MH → R W := fun x y h => match isV x y with
  | some k => .ok (.bl (!k)) h
  | none => .stuck
theorem os_is : OpS X Wx (compareOp .Is) bIs := .of (op_isN.or op_isBl) fun σ b h x y x' y' Q S r1 r2 q => by
  unfold bIs at q
  cases r1 <;> cases r2 <;> first | exact q.elim | (first | exact .inl ⟨rfl, q.here S (.bl _)⟩ | exact .inr ⟨_, _, rfl, rfl, q.here S (.bl _)⟩)
theorem os_isnot : OpS X Wx (compareOp .IsNot) bNot := .of (op_notN.or op_notBl) fun σ b h x y x' y' Q S r1 r2 q => by
  unfold bNot at q
  cases r1 <;> cases r2 <;> first | exact q.elim | (first | exact .inl ⟨rfl, q.here S (.bl _)⟩ | exact .inr ⟨_, _, rfl, rfl, q.here S (.bl _)⟩)
/-! ### in: a sign in a text; a flat thing in a list or a tuple -/
def flatW : W → Bool
  | .non => true
  | .bl _ => true
  | .int _ => true
  | .str _ => true
  | _ => false
def eqW : W → W → Bool
  | .non, .non => true
  | .bl a, .bl b => a == b
  | .bl a, .int b => (if a then 1 else 0) == b
  | .int a, .bl b => a == (if b then 1 else 0)
  | .int a, .int b => a == b
  | .str a, .str b => a == b
  | _, _ => false
def inW (x : W) (xs : List W) : Bool := xs.any fun y => eqW y x
theorem flat_of {K : PySem.W.Frag} {b : Bs} {w : W} {v : V} (r : Rl K b w v) (h : flatW w = true) : flatV v = true := by
  cases r <;> first | rfl | cases h
theorem eq_of {K : PySem.W.Frag} {b : Bs} {w x : W} {v y : V} (r : Rl K b w v) (s : Rl K b x y) (h : flatW w = true) (g : flatW x = true) : eqV v y = eqW w x := by
  cases r <;> first | exact absurd h Bool.false_ne_true | (cases s <;> first | exact absurd g Bool.false_ne_true | rfl)
theorem flats_of {K : PySem.W.Frag} {b : Bs} : ∀ {ws : List W} {vs : List V}, Rls K b ws vs → ws.all flatW = true → vs.all flatV = true
  | _, _, .nil, _ => rfl
  | _, _, .cons r rr, h => by
    simp only [List.all_cons, Bool.and_eq_true] at h ⊢
    exact ⟨flat_of r h.1, flats_of rr h.2⟩
theorem in_of {K : PySem.W.Frag} {b : Bs} {x : W} {y : V} (s : Rl K b x y) (g : flatW x = true) : ∀ {ws : List W} {vs : List V}, Rls K b ws vs → ws.all flatW = true → inV y vs = inW x ws
  | _, _, .nil, _ => rfl
  | _, _, .cons r rr, h => by
    simp only [List.all_cons, Bool.and_eq_true] at h
    have ih := in_of s g rr h.2
    unfold inV inW at *
    rw [List.any_cons, List.any_cons, ih, eq_of r s h.1 g]
def seqAt (y : W) (h : MH) : Option (List W) := match y with
  | .ref i => lstAt h i
  | .tup xs => some xs
  | .vl xs => some xs
  | _ => none
theorem Sim.seq {K : PySem.W.Frag} {b : Bs} {h : MH} {y : W} {v : V} {xs : List W} (S : Sim K b h) (r : Rl K b y v) (e : seqAt y h = some xs) : ∃ p vs, v = .ref p ∧ (SqL K b.H p vs ∨ SqT K b.H p vs) ∧ Rls K b xs vs := by
  cases r with
  | ref i hi =>
    obtain ⟨vs, h1, rr, _⟩ := S.list (show lstAt h i = some xs from e)
    exact ⟨_, vs, rfl, .inl h1, rr⟩
  | tup a ws vs hs rr =>
    cases (show some ws = some xs from e)
    exact ⟨a, vs, rfl, .inr hs, rr⟩
  | vl a ws vs z rr =>
    cases (show some ws = some xs from e)
    exact ⟨a, vs, rfl, .inl (S.zl z), rr⟩
  | _ => cases e
def inG (neg : Bool) (x y : W) (h : MH) : R W := match x, y with
  | .str c, .str z => if c.length = 1 then .ok (.bl (if neg then !decide (c.cps.toList.headD 0 ∈ z.cps.toList) else decide (c.cps.toList.headD 0 ∈ z.cps.toList))) h else .stuck
  | x, y => match seqAt y h with
    | some xs => if flatW x = true ∧ xs.all flatW = true then .ok (.bl (if neg then !inW x xs else inW x xs)) h else .stuck
    | none => .stuck
theorem sign_of {c : Str} (h : c.length = 1) : c = ⟨#[c.cps.toList.headD 0]⟩ := by
  obtain ⟨⟨l⟩⟩ := c
  match l, (show l.length = 1 from h) with
  | [a], _ => rfl
theorem in_read {K : PySem.W.Frag} {We : Value → Option Addr → Hp → Prop} {neg : Bool} {b : Bs} {h : MH} {x y : W} {x' y' : V} {Q : VK} (S : Sim K b h) (r1 : Rl K b x x') (r2 : Rl K b y y') (q : Post K (Rl K) We b Q (inG neg x y h)) :
    (∃ (c : Nat) (z : Str), x' = .str ⟨#[c]⟩ ∧ y' = .str z ∧ Q (.bl (if neg then !decide (c ∈ z.cps.toList) else decide (c ∈ z.cps.toList))) b.H) ∨ rIn K neg x' y' b.H Q := by
  unfold inG at q
  split at q
  · rename_i c z
    cases r1; cases r2
    split at q
    · rename_i hz
      exact .inl ⟨_, z, by rw [← sign_of hz], rfl, q.here S (.bl _)⟩
    · exact q.elim
  · split at q
    · rename_i xs e
      split at q
      · rename_i hz
        obtain ⟨p, vs, rfl, hs, rr⟩ := S.seq r2 e
        refine .inr ⟨p, vs, rfl, hs, flat_of r1 hz.1, flats_of rr hz.2, ?_⟩
        rw [in_of r1 hz.1 rr hz.2]
        exact q.here S (.bl _)
      · exact q.elim
    · exact q.elim
theorem os_in : OpS X Wx (compareOp .In) (inG false) := .of (op_in_sign.or op_in_seq) fun σ b h x y x' y' Q S r1 r2 q => in_read S r1 r2 q
theorem os_notin : OpS X Wx (compareOp .NotIn) (inG true) := .of (op_notIn_sign.or op_notIn_seq) fun σ b h x y x' y' Q S r1 r2 q => in_read S r1 r2 q
/-! ### subscripts -/
theorem atI_rel {K : PySem.W.Frag} {b : Bs} {ws : List W} {vs : List V} {i : Int} {w : W} (r : Rls K b ws vs) (e : atI ws i = some w) : ∃ v, atI vs i = some v ∧ Rl K b w v := by
  unfold atI at *
  rw [← r.length]
  cases e2 : ixN ws.length i with
  | none => rw [e2] at e; cases e
  | some j => rw [e2] at e; exact r.get e
def bIx : W → W → MH → R W := fun x y h => match x, y with
  | .str z, .int i => if z.length ≤ sizeLine then match atI z.cps.toList i with
    | some c => .ok (.str ⟨#[c]⟩) h
    | none => .stuck else .stuck
  | x, .int i => match (seqAt x h).bind fun xs => atI xs i with
    | some w => .ok w h
    | none => .stuck
  | _, _ => .stuck
variable {a c e : Expr} {ma mc me : EM} {pos : Pos}
theorem se_ix (ha : SE X Wx a ma) (hc : SE X Wx c mc) (hs : PlainIx c := by exact fun _ _ => rfl) : SE X Wx (.Subscript a c pos) (e2 bIx ma mc) := by
  refine ⟨pe_imp (pe_ix (ix_list.or (ix_tup.or ix_str)) ha.pe hc.pe hs) fun σ H Q ⟨b, h, σm, eH, S, l, q⟩ => ?_⟩
  subst eH
  refine ⟨b, h, σm, rfl, S, l, (Post.bind (rel := Rl X.K) q).mono fun x' H1 ⟨c1, x, h1, eH, E1, S1, r1, q1⟩ => ?_⟩
  subst eH
  refine ⟨c1, h1, σm, rfl, S1, l.ext E1, (Post.bind (rel := Rl X.K) q1).mono fun y' H2 ⟨c2, y, h2, eH, E2, S2, r2, q2⟩ => ?_⟩
  subst eH
  have r1 := r1.ext E2
  unfold bIx at q2
  split at q2
  · cases r1; cases r2
    split at q2
    · rename_i hz
      split at q2
      · rename_i c' hc'; exact .inr (.inr ⟨_, _, c', rfl, rfl, hz, hc', q2.here S2 (.str _)⟩)
      · exact q2.elim
    · exact q2.elim
  · cases r2
    split at q2
    · rename_i w hw
      cases es : seqAt x h2 with
      | none => rw [es] at hw; cases hw
      | some xs =>
        rw [es] at hw
        obtain ⟨p, vs, rfl, hs, rr⟩ := S2.seq r1 es
        obtain ⟨v, hv, rv⟩ := atI_rel rr hw
        rcases hs with hs | hs
        · exact .inl ⟨p, vs, _, v, rfl, rfl, hs, hv, q2.here S2 rv⟩
        · exact .inr (.inl ⟨p, vs, _, v, rfl, rfl, hs, hv, q2.here S2 rv⟩)
    · exact q2.elim
  · exact q2.elim
/-! ### slices -/
abbrev OM := MS → MH → R (Option Int)
def oNo : OM := fun _ h => .ok none h
def oSome (m : EM) : OM := fun σ h => (m σ h).bind fun w h1 => match w with
  | .int i => .ok (some i) h1
  | _ => .stuck
abbrev rEqO : Bs → Option Int → Option Int → Prop := fun _ a b => a = b
def tSimO (K : PySem.W.Frag) (Wx : WX) (m : OM) : TO := fun σ H Q => ∃ (b : Bs) (h : MH) (σm : MS), b.H = H ∧ Sim K b h ∧ SlM K b σm σ ∧ Post K rEqO (fun c d H' => Wx c d σ H') b Q (m σm h)
structure SO (X : Cx) (Wx : WX) (e : Option Expr) (m : OM) : Prop where
  po : PO X e (tSimO X.K Wx m)
theorem po_imp {e : Option Expr} {t u : TO} (h : PO X e t) (m : ∀ σ H Q, u σ H Q → t σ H Q) : PO X e u := ⟨fun pins s σ H Q I q => h.run pins s σ H Q I (m _ _ _ q)⟩
theorem so_none : SO X Wx none oNo := ⟨po_imp po_none fun σ H Q ⟨b, h, σm, e, S, l, q⟩ => by subst e; exact q.here S rfl⟩
theorem so_some (ha : SE X Wx a ma) : SO X Wx (some a) (oSome ma) := ⟨po_imp (po_some ha.pe) fun σ H Q ⟨b, h, σm, e, S, l, q⟩ => by
  refine ⟨b, h, σm, e, S, l, (Post.bind (rel := Rl X.K) q).mono fun x' H1 ⟨c1, x, h1, eH, E1, S1, r1, q1⟩ => ?_⟩
  subst eH
  cases r1 <;> first | exact q1.elim | exact ⟨_, rfl, q1.here S1 rfl⟩⟩
theorem SlR.or' {r r' : V → Option Int → Option Int → Hp → VK → Prop} (a : L2.SlR X r) (c : L2.SlR X r') : L2.SlR X (fun x lo hi H Q => r x lo hi H Q ∨ r' x lo hi H Q) := by
  intro pins s σ H x v vl vu lo hi sl Q I rx hs pl pu q
  rcases q with q | q
  · exact a pins s σ H x v vl vu lo hi sl Q I rx hs pl pu q
  · exact c pins s σ H x v vl vu lo hi sl Q I rx hs pl pu q
def cutW (xs : List W) (lo hi : Option Int) : List W := (xs.drop (HT.sIx xs.length 0 lo)).take (HT.sIx xs.length xs.length hi - HT.sIx xs.length 0 lo)
def bSl (x : W) (lo hi : Option Int) (h : MH) : R W := match x with
  | .str z => if z.length ≤ sizeLine then .ok (.str (cutS z lo hi)) h else .stuck
  | .ref i => match lstAt h i with
    | some xs => .ok (.ref h.length) (h ++ [.lst (cutW xs lo hi)])
    | none => .stuck
  | .vl xs => .ok (.ref h.length) (h ++ [.lst (cutW xs lo hi)])
  | .tup ws => if HT.sIx ws.length 0 lo = 0 ∧ HT.sIx ws.length ws.length hi = ws.length then .stuck else .ok (.tup (cutW ws lo hi)) h
  | _ => .stuck
def eSl (m : EM) (lo hi : OM) : EM := fun σ h => (m σ h).bind fun x h1 => (lo σ h1).bind fun l h2 => (hi σ h2).bind fun u h3 => bSl x l u h3
theorem cut_rel {K : PySem.W.Frag} {b : Bs} {ws : List W} {vs : List V} {lo hi : Option Int} (r : Rls K b ws vs) : Rls K b (cutW ws lo hi) (cutV vs lo hi) := by
  unfold cutW cutV
  rw [r.length]
  exact (r.drop _).take _
theorem se_sl {lo hi : Option Expr} {ml mh : OM} {p2 : Pos} (ha : SE X Wx a ma) (hl : SO X Wx lo ml) (hh : SO X Wx hi mh) : SE X Wx (.Subscript a (.Slice lo hi none p2) pos) (eSl ma ml mh) := by
  refine ⟨pe_imp (pe_slice (SlR.or' sl_str (SlR.or' sl_list sl_tup)) ha.pe hl.po hh.po) fun σ H Q ⟨b, h, σm, eH, S, l, q⟩ => ?_⟩
  subst eH
  refine ⟨b, h, σm, rfl, S, l, (Post.bind (rel := Rl X.K) q).mono fun x' H1 ⟨c1, x, h1, eH, E1, S1, r1, q1⟩ => ?_⟩
  subst eH
  refine ⟨c1, h1, σm, rfl, S1, l.ext E1, (Post.bind (rel := rEqO) q1).mono fun y' H2 ⟨c2, y, h2, eH, E2, S2, r2, q2⟩ => ?_⟩
  subst eH; subst r2
  refine ⟨c2, h2, σm, rfl, S2, (l.ext E1).ext E2, (Post.bind (rel := rEqO) q2).mono fun z' H3 ⟨c3, z, h3, eH, E3, S3, r3, q3⟩ => ?_⟩
  subst eH; subst r3
  have r1 := (r1.ext E2).ext E3
  unfold bSl at q3
  cases r1 with
  | str x =>
    dsimp only at q3
    split at q3
    · rename_i hz; exact .inl ⟨x, rfl, hz, q3.here S3 (.str _)⟩
    · exact q3.elim
  | ref i hi =>
    dsimp only at q3
    split at q3
    · rename_i xs hx
      obtain ⟨vs, a1, rr, _⟩ := S3.list hx
      exact .inr (.inl ⟨_, vs, rfl, a1, fun p hp => Post.lst S3 (cut_rel rr) q3 hp⟩)
    · exact q3.elim
  | vl p ws vs z rr => exact .inr (.inl ⟨_, vs, rfl, S3.zl z, fun p hp => Post.lst S3 (cut_rel rr) q3 hp⟩)
  | tup p ws vs hs rr =>
    dsimp only at q3
    split at q3
    · exact q3.elim
    · rename_i hz
      refine .inr (.inr ⟨p, vs, rfl, hs, by rw [← rr.length]; exact hz, fun p hp => Post.tup S3 (cut_rel rr) q3 hp⟩)
  | _ => exact q3.elim
/-! ### xs[i] = v -/
def sSetIx (mo mi mv : EM) : SM := fun σ h => (mv σ h).st σ fun v h1 => (mo σ h1).st σ fun o h2 => (mi σ h2).st σ fun i h3 => match o, i with
  | .ref j, .int k => match mutAt h3 j with
    | some xs => match ixN xs.length k with
      | some n => .nx σ (h3.set j (.lst (xs.set n v)))
      | none => .stuck
    | none => .stuck
  | _, _ => .stuck
theorem ss_setIx (ho : SE X Wx a ma) (hi : SE X Wx c mc) (he : SE X Wx e me) (hs : swapsWithSole [.Subscript a c pos] e pos'.line X.env = pure false := by rfl) (hw : swappedStores [.Subscript a c pos] e X.env = pure none := by rfl)
    (h1 : (assignEach [.Subscript a c pos] X.env).map (·.2) = [assign (.Subscript a c pos) X.env] := by rfl)
    (hx : ∀ v, assign (.Subscript a c pos) X.env v = (do
      let ov ← holding [v] (eval a X.env)
      let iv ← holding [v, ov] (eval c X.env)
      standAt pos
      holding [v, ov, iv] (setItem ov iv v)
      release [v, ov, iv] []) := by intro _; rfl) : SS X Wx (.Assign [.Subscript a c pos] e pos') (sSetIx ma mc me) := by
  refine ⟨ps_imp (ps_asg he.pe (pg_sub ho.pe hi.pe set_list hx) hs hw h1) fun D σ H ⟨b, h, σm, eH, S, l, q⟩ => ?_⟩
  refine ⟨b, h, σm, eH, S, l, (PostS.st (rel := Rl X.K) l q).mono fun v H1 ⟨c1, w, g1, e1, x1, s1, r1, p1⟩ => ?_⟩
  refine ⟨c1, g1, σm, e1, s1, l.ext x1, (PostS.st (rel := Rl X.K) (l.ext x1) p1).mono fun o H2 ⟨c2, wo, g2, e2, x2, s2, r2, p2⟩ => ?_⟩
  refine ⟨c2, g2, σm, e2, s2, (l.ext x1).ext x2, (PostS.st (rel := Rl X.K) ((l.ext x1).ext x2) p2).mono fun i H3 ⟨c3, wi, g3, e3, x3, s3, r3, p3⟩ => ?_⟩
  subst e3
  have r2 := r2.ext x3
  split at p3
  · cases r2; cases r3
    split at p3
    · rename_i xs hx
      split at p3
      · rename_i n hn
        obtain ⟨vs, a1, rr, _⟩ := s3.mut hx
        obtain ⟨x4, s4⟩ := s3.putL hx (rr.set n ((r1.ext x2).ext x3))
        exact ⟨_, vs, _, n, rfl, rfl, a1, by rw [← rr.length]; exact hn, p3 _ σ x4 s4 (((l.ext x1).ext x2).ext x3 |>.ext x4)⟩
      · exact p3.elim
    · exact p3.elim
  · exact p3.elim
end
end PM
/-! Sm10: built-in functions and methods. -/
noncomputable section
namespace PM
open PySem PySem.Spec L2
open PyProof.Rows hiding St
section
variable {X : Cx} {Wx : WX} {k : Nat}
/-- a constant of the module; a built-in type as a value -/
theorem se_glob {x : Str} {w : W} {v : V} {u : Value} {pos : Pos} (hg : Gl X x) (hm : X.mg x = some u) (r : RelV v u) (hr : ∀ b, Rl X.K b w v) (hd : (x == ("__debug__" : Str)) = false := by decide) : SE X Wx (.Name x pos) (eC w) := se_c hr (pe_glob hg hm r hd)
theorem se_type {x : Str} {n : String} {pos : Pos} (hg : Gl X x) (hm : X.mg x = none) (hv : bootBuiltins x = some (.type n)) (hn : x ≠ "__name__" := by decide) (hd : (x == ("__debug__" : Str)) = false := by decide) : SE X Wx (.Name x pos) (eC (.ty n)) :=
  se_c (fun _ => .ty n) (pe_bltn hg hm hv rfl hn hd)
/-! ### len -/
def lenW (w : W) (h : MH) : Option Nat := match w with
  | .str x => if x.length ≤ sizeLine then some x.length else none
  | .tup xs => some xs.length
  | w => match lstW h w with
    | some xs => some xs.length
    | none => (dctW h w).map (·.length)
def bLen (ws : List W) (h : MH) : R W := match ws with
  | [w] => match lenW w h with
    | some n => .ok (.int n) h
    | none => .stuck
  | _ => .stuck
theorem rls1 {K : PySem.W.Frag} {b : Bs} {w : W} {vs : List V} (r : Rls K b [w] vs) : ∃ v, vs = [v] ∧ Rl K b w v := by
  cases r with
  | cons r rr => cases rr; exact ⟨_, rfl, r⟩
theorem rls2 {K : PySem.W.Frag} {b : Bs} {w x : W} {vs : List V} (r : Rls K b [w, x] vs) : ∃ v y, vs = [v, y] ∧ Rl K b w v ∧ Rl K b x y := by
  cases r with
  | cons r rr =>
    obtain ⟨y, rfl, r2⟩ := rls1 rr
    exact ⟨_, y, rfl, r, r2⟩
theorem callR_or {f : Value} {r r' : List V → Hp → VK → Prop} (a : CallR X f r) (c : CallR X f r') : CallR X f (fun xs H Q => r xs H Q ∨ r' xs H Q) := by
  intro pins s σ H xs us Q I rr q
  rcases q with q | q
  · exact a pins s σ H xs us Q I rr q
  · exact c pins s σ H xs us Q I rr q
theorem call_lenRd : CallR X (.builtin "len") (fun xs H Q => ∃ a kvs, xs = [V.ref a] ∧ Rd H a (.dK kvs) ∧ Q (.int kvs.length) H) := by
  intro pins s σ H xs us Q I r h
  obtain ⟨a, kvs, rfl, ha, q⟩ := h
  obtain ⟨u, rfl, ru⟩ := vals1 r
  cases ru
  exact d_len I ha fun t s' I' => ⟨.int kvs.length, H, I', ⟨t, rfl⟩, q⟩
theorem cs_len : CallS X Wx (.builtin "len") bLen := .of (callR_or call_len call_lenRd) fun σ b h ws vs Q S r q => by
  unfold bLen at q
  split at q
  · rename_i w
    obtain ⟨v, rfl, r1⟩ := rls1 r
    split at q
    · rename_i n hn
      have gen : (match lstW h w with
          | some xs => some xs.length
          | none => (dctW h w).map (·.length)) = some n → ((∃ x n, [v] = [x] ∧ LenV X.K x b.H n ∧ Q (.int n) b.H) ∨ ∃ a kvs, [v] = [V.ref a] ∧ Rd b.H a (.dK kvs) ∧ Q (.int kvs.length) b.H) := fun hn => by
        split at hn
        · rename_i xs e
          cases hn
          obtain ⟨a, us, rfl, h1, rr⟩ := S.listW r1 e
          exact .inl ⟨_, _, rfl, .inl ⟨us, h1, rr.length⟩, q.here S (.int _)⟩
        · obtain ⟨kvs, e, rfl⟩ := Option.map_eq_some_iff.mp hn
          obtain ⟨a, ps, rfl, h1, rr⟩ := S.dicW r1 e
          refine .inr ⟨_, ps, rfl, h1, ?_⟩
          have := congrArg List.length rr.1
          simp only [List.length_map] at this
          rw [this]
          exact q.here S (.int _)
      unfold lenW at hn
      cases r1 with
      | str x =>
        dsimp only at hn
        split at hn
        · rename_i hz; cases hn; exact .inl ⟨_, _, rfl, ⟨hz, rfl⟩, q.here S (.int _)⟩
        · cases hn
      | tup a ws us hs rr => cases hn; exact .inl ⟨_, _, rfl, .inr ⟨us, hs, rr.length⟩, q.here S (.int _)⟩
      | _ => exact gen hn
    · exact q.elim
  · exact q.elim
/-! ### isinstance, of built-in types -/
def tyB (w : W) (h : MH) : Option String := match w with
  | .non => some "NoneType"
  | .bl _ => some "bool"
  | .int _ => some "int"
  | .str _ => some "str"
  | .tup _ => some "tuple"
  | .ref i => match lstAt h i with
    | some _ => some "list"
    | none => match h[i]? with
      | some (.dct _) => some "dict"
      | some (.lck _) => some "dict"
      | _ => none
  | .vl _ => some "list"
  | .vd _ => some "dict"
  | _ => none
theorem tyX_of {K : PySem.W.Frag} {b : Bs} {h : MH} {w : W} {v : V} {t : String} (S : Sim K b h) (r : Rl K b w v) (e : tyB w h = some t) : TyX K b.H v (.type t) := by
  unfold tyB at e
  cases r with
  | non => cases e; exact .base .non
  | bl _ => cases e; exact .base (.bl _)
  | int _ => cases e; exact .base (.int _)
  | str _ => cases e; exact .base (.str _)
  | ty _ => cases e
  | glo _ => cases e
  | vl a ws vs z rr =>
    cases e
    exact .base (.lst (show b.H a = some (.lst vs) from S.zh a _ z))
  | vd a kvs ps z _ _ =>
    cases e
    rcases (show Rd b.H a (.dK ps) from S.zh a _ z) with hs | ⟨o, hs⟩
    · exact .base (.dK hs)
    · exact .fDict hs
  | vi a C fs dx ps z _ _ => cases e
  | tup a ws vs hs rr =>
    cases e
    rcases hs with (hs | ⟨o, hs⟩) | ⟨o, its, n, hs, c, _⟩
    · exact .base (.tup hs)
    · exact .fTuple hs
    · exact .kTuple hs c
  | ref i hi =>
    dsimp only at e
    split at e
    · rename_i xs hx
      cases e
      obtain ⟨vs, hs, _⟩ := S.list hx
      rcases hs with (hs | ⟨o, hs⟩) | ⟨o, its, n, hs, c, _⟩
      · exact .base (.lst hs)
      · exact .base (.frz hs)
      · exact .kList hs c
    · split at e
      · rename_i kvs hk
        cases e
        obtain ⟨ps, h1, _⟩ := S.dict hk
        exact .base (.dK h1)
      · rename_i kvs hk
        cases e
        obtain ⟨o, ps, h1, _⟩ := S.ob _ _ hk
        exact .fDict h1
      · cases e
/-- the answers for the types that a program has -/
def isB (a b : String) : Option Bool :=
  if a = b then some true
  else if a ∈ ["NoneType", "bool", "int", "str", "tuple", "list", "dict"] ∧ b ∈ ["NoneType", "bool", "int", "str", "tuple", "list", "dict"] then some (decide (a = "bool" ∧ b = "int"))
  else none
theorem isB_ok {K : PySem.W.Frag} {a b : String} {r : Bool} (h : isB a b = some r) : PySem.W.kitOne K (.type a) (.type b) = some r := by
  apply kit_ty
  unfold isB at h
  split at h
  · rename_i e
    cases h; subst e
    unfold kitB
    rw [if_pos (beq_self_eq_true _)]
  · split at h
    · rename_i hn hm
      cases h
      obtain ⟨h1, h2⟩ := hm
      simp only [List.mem_cons, List.not_mem_nil, or_false] at h1 h2
      rcases h1 with rfl | rfl | rfl | rfl | rfl | rfl | rfl <;> rcases h2 with rfl | rfl | rfl | rfl | rfl | rfl | rfl <;> first | exact absurd rfl hn | decide +kernel
    · cases h
def tysOf : List W → Option (List String)
  | [] => some []
  | .ty n :: r => (tysOf r).map (n :: ·)
  | _ => none
theorem tysOf_ok {K : PySem.W.Frag} {b : Bs} : ∀ {ws : List W} {vs : List V} {ns : List String}, Rls K b ws vs → tysOf ws = some ns → Paired ClsV vs (ns.map Value.type)
  | _, _, ns, .nil, e => by cases e; exact .nil
  | w :: ws, _, ns, .cons r1 rr, e => by
    cases r1 with
    | ty n =>
      simp only [tysOf, Option.map_eq_some_iff] at e
      obtain ⟨ms, e, rfl⟩ := e
      exact .cons (.ty n) (tysOf_ok rr e)
    | _ => cases e
def isAny (t : String) : List String → Option Bool
  | [] => some false
  | n :: r => match isB t n with
    | some true => some true
    | some false => isAny t r
    | none => none
theorem isAny_ok {K : PySem.W.Frag} {t : String} : ∀ {ns : List String} {r : Bool}, isAny t ns = some r → PySem.W.kitAny K (.type t) (ns.map Value.type) = some r
  | [], r, e => by cases e; rfl
  | n :: ns, r, e => by
    unfold isAny at e
    split at e
    · rename_i e1; cases e; exact kitAny_cons (isB_ok e1) (fun z => nomatch z) (fun _ => rfl)
    · rename_i e1; exact kitAny_cons (isB_ok e1) (fun _ => isAny_ok e) (fun z => nomatch z)
    · cases e
def bIsi (ws : List W) (h : MH) : R W := match ws with
  | [w, .ty n] => match (tyB w h).bind fun t => isB t n with
    | some r => .ok (.bl r) h
    | none => .stuck
  | [w, .tup cs] => match (tyB w h).bind fun t => (tysOf cs).bind fun ns => isAny t ns with
    | some r => .ok (.bl r) h
    | none => .stuck
  | _ => .stuck
theorem sqT_K {K : PySem.W.Frag} {H : Hp} {a : Addr} {vs : List V} (h : SqT K H a vs) : H a = some (.tup vs) ∨ (∃ o, H a = some (.frz o (.tup vs))) ∨ ∃ o its n, K.lookup a = some o ∧ o.cls = Value.type "tuple" ∧ o.data = .seq its n ∧ Vals vs its.toList := by
  rcases h with (h | h) | ⟨o, its, n, h1, h2, h3, _, h4⟩
  · exact .inl h
  · exact .inr (.inl h)
  · exact .inr (.inr ⟨o, its, n, h1, h2, h3, h4⟩)
theorem call_isiF : CallR X (.builtin "isinstance") (fun xs H Q => ∃ (x : V) (tp : Addr) (o : Obj) (cs : List V) (t : Value) (us : List Value) (b : Bool), xs = [x, .ref tp] ∧ H tp = some (.frz o (.tup cs)) ∧ Paired ClsV cs us ∧ TyX X.K H x t ∧ PySem.W.kitAny X.K t us = some b ∧ Q (.bl b) H) := by
  intro pins s σ H xs us Q I r h
  obtain ⟨x, tp, ob, cs, t, ws, b, rfl, hT, k, ty, e, q⟩ := h
  obtain ⟨u1, u2, rfl, r1, r2⟩ := vals2 r
  cases (show u2 = Value.ref tp from r2)
  obtain ⟨P, Z, p, hx⟩ := kit_of I r1 ty
  obtain ⟨_, _, its, rv, o, h1, h2, n, h3⟩ := (show ObjOk X.prog X.w H s.heap tp (.frz ob (.tup cs)) from I.hok tp _ hT)
  have e3 := ClsV.all k rv
  subst e3
  obtain ⟨oc, od, dt, sl⟩ := o
  simp only at h2 h3
  subst h2 h3
  exact PySem.W.kia_tup Z I.kIn p h1 e hx fun tk => ⟨.bl b, H, I.tok tk, rfl, q⟩
theorem cs_isi : CallS X Wx (.builtin "isinstance") bIsi := .of (callR_or call_isi (callR_or call_isiT (callR_or call_isiF call_isiK))) fun σ b h ws vs Q S r q => by
  unfold bIsi at q
  split at q
  · rename_i w n
    obtain ⟨v, y, rfl, r1, r2⟩ := rls2 r
    cases r2
    split at q
    · rename_i k hk
      obtain ⟨t, h1, h2⟩ := Option.bind_eq_some_iff.mp hk
      exact .inl ⟨v, _, .type t, .type n, k, rfl, .ty n, tyX_of S r1 h1, isB_ok h2, q.here S (.bl _)⟩
    · exact q.elim
  · rename_i w cs
    obtain ⟨v, y, rfl, r1, r2⟩ := rls2 r
    cases r2 with
    | tup a _ us hs rr =>
      split at q
      · rename_i k hk
        obtain ⟨t, h1, h2⟩ := Option.bind_eq_some_iff.mp hk
        obtain ⟨ns, h2, h3⟩ := Option.bind_eq_some_iff.mp h2
        have p := tysOf_ok rr h2
        have e3 := isAny_ok (K := X.K) h3
        rcases sqT_K hs with hs | ⟨o, hs⟩ | ⟨o, its, n, l1, l2, l3, l4⟩
        · exact .inr (.inl ⟨v, a, us, .type t, _, k, rfl, hs, p, tyX_of S r1 h1, e3, q.here S (.bl _)⟩)
        · exact .inr (.inr (.inl ⟨v, a, o, us, .type t, _, k, rfl, hs, p, tyX_of S r1 h1, e3, q.here S (.bl _)⟩))
        · have e4 := ClsV.all p l4
          obtain ⟨oc, od, dt, sl⟩ := o
          simp only at l2 l3
          subst l2 l3
          refine .inr (.inr (.inr ⟨v, a, od, ns.map Value.type, n, sl, .type t, k, rfl, ?_, tyX_of S r1 h1, e3, q.here S (.bl _)⟩))
          rw [l1, ← e4]
      · exact q.elim
  · exact q.elim
/-! ### all, any of a list of bools -/
def blsOf : List W → Option (List Bool)
  | [] => some []
  | .bl k :: r => (blsOf r).map (k :: ·)
  | _ => none
theorem blsOf_ok {K : PySem.W.Frag} {b : Bs} : ∀ {ws : List W} {vs : List V} {ks : List Bool}, Rls K b ws vs → blsOf ws = some ks → vs = ks.map V.bl
  | _, _, ns, .nil, e => by cases e; rfl
  | w :: ws, _, ns, .cons r1 rr, e => by
    cases r1 with
    | bl k =>
      simp only [blsOf, Option.map_eq_some_iff] at e
      obtain ⟨ms, e, rfl⟩ := e
      rw [blsOf_ok rr e]; rfl
    | _ => cases e
def bAll (f : List Bool → Bool) (ws : List W) (h : MH) : R W := match ws with
  | [w] => match (lstW h w).bind blsOf with
    | some ks => .ok (.bl (f ks)) h
    | none => .stuck
  | _ => .stuck
theorem bAll_read {K : PySem.W.Frag} {We : Value → Option Addr → Hp → Prop} {f : List Bool → Bool} {b : Bs} {h : MH} {ws : List W} {vs : List V} {Q : VK} (S : Sim K b h) (r : Rls K b ws vs) (q : Post K (Rl K) We b Q (bAll f ws h)) : ∃ (a : Addr) (bs : List Bool), vs = [V.ref a] ∧ SqL K b.H a (bs.map V.bl) ∧ Q (.bl (f bs)) b.H := by
  unfold bAll at q
  split at q
  · rename_i w
    obtain ⟨v, rfl, r1⟩ := rls1 r
    split at q
    · rename_i ks hk
      obtain ⟨xs, h1, h2⟩ := Option.bind_eq_some_iff.mp hk
      obtain ⟨a, us, rfl, hs, rr⟩ := S.listW r1 h1
      rw [blsOf_ok rr h2] at hs
      exact ⟨_, ks, rfl, hs, q.here S (.bl _)⟩
    · exact q.elim
  · exact q.elim
theorem cs_all (hc : X.calm = true) : CallS X Wx (.builtin "all") (bAll fun ks => ks.all id) := .of (cr_all hc) fun σ b h ws vs Q S r q => bAll_read S r q
theorem cs_any (hc : X.calm = true) : CallS X Wx (.builtin "any") (bAll fun ks => ks.any id) := .of (cr_any hc) fun σ b h ws vs Q S r q => bAll_read S r q
/-! ### repr of data without dicts; str of an int, of a text -/
def bRepr (ws : List W) (h : MH) : R W := match ws with
  | [w] => match dataW h 20 w with
    | some d => if d.showable = true ∧ d.hasDict = false ∧ d.depth ≤ 60 ∧ d.shown.length ≤ sizeLine then .ok (.str d.shown) h else .stuck
    | none => .stuck
  | _ => .stuck
theorem cs_repr (hr : Room k X.A) (hg : X.A.guards = some []) : CallS X Wx (.builtin "repr") bRepr := by
  refine ⟨fun pins s σ b h ws vs us Q I S r rv q => ?_⟩
  unfold bRepr at q
  split at q
  case h_2 => exact q.elim
  rename_i w
  split at q
  case h_2 => exact q.elim
  rename_i d hd
  split at q
  case isFalse => exact q.elim
  rename_i hz
  obtain ⟨z1, z2, z3, z4⟩ := hz
  obtain ⟨v, rfl, r1⟩ := rls1 r
  obtain ⟨u, rfl, ru⟩ := vals1 rv
  obtain ⟨as, rd⟩ := Dp.reads I d v u (dp_of S _ _ _ _ hd r1) ru
  have fin : ∀ h' tk t, (∀ b o, s.heap.get? b = some o → h'.get? b = some o) → EP X pins σ Q (.str d.shown tk) { s with heap := h', toks := t } := fun h' tk t kp => ⟨.str d.shown, b.H, I.kept kp, ⟨tk, rfl⟩, q.here S (.str _)⟩
  have hu := hr.units
  cases rd with
  | none => exact PySem.P.repr_of_none (fin s.heap _ _ fun _ _ e => e)
  | bool k => exact PySem.P.repr_of_bool (fin s.heap _ _ fun _ _ e => e)
  | int i t => exact PySem.P.repr_of_int (of_decide_eq_true (show decide (i.natAbs.log2 < 1920) = true from by simpa only [PyData.showable] using z1)) (fin s.heap _ _ fun _ _ e => e)
  | str x t => exact PySem.P.repr_of_str (by simpa only [PyData.shown] using (fin s.heap s.toks (s.toks + 1) fun _ _ e => e)) (by simpa only [PyData.shown] using z4)
  | list h1 h2 h3 h4 => exact repr_of_reads' (.list h1 h2 h3 h4) z1 (fun z => by rw [z2] at z; cases z) hg (by omega) (fun _ _ e => e) (fun h' tk t kp => fin h' tk t kp) z4
  | tuple h1 h2 h3 h4 => exact repr_of_reads' (.tuple h1 h2 h3 h4) z1 (fun z => by rw [z2] at z; cases z) hg (by omega) (fun _ _ e => e) (fun h' tk t kp => fin h' tk t kp) z4
  | dict h1 h2 h3 h4 h5 => simp only [PyData.hasDict] at z2; cases z2
def bStr (ws : List W) (h : MH) : R W := match ws with
  | [.int i] => if i.natAbs.log2 < 1920 then .ok (.str (toString i)) h else .stuck
  | [.str x] => .ok (.str x) h
  | _ => .stuck
theorem cs_str : CallS X Wx (.type "str") bStr := .of (callR_or call_str_int SkE.call_str_str) fun σ b h ws vs Q S r q => by
  unfold bStr at q
  split at q
  · obtain ⟨v, rfl, r1⟩ := rls1 r
    cases r1
    split at q
    · rename_i hz; exact .inl ⟨_, rfl, hz, q.here S (.str _)⟩
    · exact q.elim
  · obtain ⟨v, rfl, r1⟩ := rls1 r
    cases r1
    exact .inr ⟨_, rfl, q.here S (.str _)⟩
  · exact q.elim
/-! ### max, min of two ints -/
def bMax2 (ws : List W) (h : MH) : R W := match ws with
  | [.int i, .int j] => .ok (.int (if j > i then j else i)) h
  | _ => .stuck
def bMin2 (ws : List W) (h : MH) : R W := match ws with
  | [.int i, .int j] => .ok (.int (if j < i then j else i)) h
  | _ => .stuck
theorem cs_max2 (hc : X.calm = true) : CallS X Wx (.builtin "max") bMax2 := .of (call_max2 hc) fun σ b h ws vs Q S r q => by
  unfold bMax2 at q
  split at q
  · obtain ⟨v, y, rfl, r1, r2⟩ := rls2 r
    cases r1; cases r2
    exact ⟨_, _, rfl, q.here S (.int _)⟩
  · exact q.elim
theorem cs_min2 (hc : X.calm = true) : CallS X Wx (.builtin "min") bMin2 := .of (call_min2 hc) fun σ b h ws vs Q S r q => by
  unfold bMin2 at q
  split at q
  · obtain ⟨v, y, rfl, r1, r2⟩ := rls2 r
    cases r1; cases r2
    exact ⟨_, _, rfl, q.here S (.int _)⟩
  · exact q.elim
/-! ### methods of texts -/
variable {o e : Expr} {mo me : EM} {apos pos : Pos}
def strsOf : List W → Option (List Str)
  | [] => some []
  | .str k :: r => (strsOf r).map (k :: ·)
  | _ => none
theorem strsOf_ok {K : PySem.W.Frag} {b : Bs} : ∀ {ws : List W} {vs : List V} {ks : List Str}, Rls K b ws vs → strsOf ws = some ks → vs = ks.map V.str
  | _, _, ns, .nil, e => by cases e; rfl
  | w :: ws, _, ns, .cons r1 rr, e => by
    cases r1 with
    | str k =>
      simp only [strsOf, Option.map_eq_some_iff] at e
      obtain ⟨ms, e, rfl⟩ := e
      rw [strsOf_ok rr e]; rfl
    | _ => cases e
def bJoin : W → W → MH → R W := fun x y h => match x, (seqAt y h).bind strsOf with
  | .str a, some ys => if (ys.map (·.length)).sum + ys.length * a.length ≤ 16777216 then .ok (.str (Txt.join a ys)) h else .stuck
  | _, _ => .stuck
theorem se_join (ho : SE X Wx o mo) (he : SE X Wx e me) (hs : starEach [e] X.env = [(false, eval e X.env)] := by rfl) (hbase : attributeBase o "join" X.env (eval o X.env) = eval o X.env := by rfl) (hline : (apos.endLine == pos.line) = true := by rfl) :
    SE X Wx (.Call (.Attribute o "join" apos) [e] [] pos) (e2 (fun x y h => match x with
      | .str _ => bJoin x y h
      | _ => .stuck) (fun σ h => (mo σ h).bind fun x g => match x with
      | .str _ => .ok x g
      | _ => .stuck) me) := by
  refine ⟨pe_imp (pe_join ho.pe he.pe hs hbase hline) fun σ H Q ⟨b, h, σm, eH, S, l, q⟩ => ?_⟩
  unfold e2 at q
  rw [bind_assoc'] at q
  refine ⟨b, h, σm, eH, S, l, (Post.bind (rel := Rl X.K) q).mono fun x' H1 ⟨c1, x, h1, eH, E1, S1, r1, q1⟩ => ?_⟩
  subst eH
  cases r1 with
  | str a =>
    refine ⟨⟨a, rfl⟩, c1, h1, σm, rfl, S1, l.ext E1, (Post.bind (rel := Rl X.K) (show Post X.K (Rl X.K) (fun c d H' => Wx c d σ H') c1 Q ((me σm h1).bind _) from q1)).mono fun y' H2 ⟨c2, y, h2, eH, E2, S2, r2, q2⟩ => ?_⟩
    subst eH
    dsimp only at q2
    unfold bJoin at q2
    split at q2
    · rename_i a' ys e1 e2
      cases e1
      obtain ⟨xs, h3, h4⟩ := Option.bind_eq_some_iff.mp e2
      obtain ⟨p, us, rfl, hs, rr⟩ := S2.seq r2 h3
      rw [strsOf_ok rr h4] at hs
      split at q2
      · rename_i hz; exact ⟨a, p, ys, rfl, rfl, hs, hz, q2.here S2 (.str _)⟩
      · exact q2.elim
    · exact q2.elim
  | _ => exact q1.elim
end
end PM
/-! Sm11: displays of dicts; calls by keywords alone. -/
noncomputable section
namespace PM
open PySem PySem.Spec L2
open PyProof.Rows hiding St
section
variable {κ α : Type} [DecidableEq κ]
def valM (kvs : List (κ × α)) (k : κ) : Option α := (kvs.find? fun kv => decide (kv.1 = k)).map (·.2)
def putM (kvs : List (κ × α)) (k : κ) (v : α) : List (κ × α) :=
  if (kvs.any fun kv => decide (kv.1 = k)) = true then kvs.map (fun kv => if kv.1 = k then (kv.1, v) else kv) else kvs ++ [(k, v)]
def dropM (kvs : List (κ × α)) (k : κ) : List (κ × α) := kvs.filter fun kv => decide (kv.1 ≠ k)
def mergeM (kvs more : List (κ × α)) : List (κ × α) := more.foldl (fun acc kv => putM acc kv.1 kv.2) kvs
variable {K : PySem.W.Frag} {b : Bs} {kvs more : List (κ × W)} {ps qs : List (κ × V)} {k : κ} {w : W} {v : V}
theorem Rlk.any (r : Rlk K b kvs ps) (k : κ) : (ps.any fun kv => decide (kv.1 = k)) = kvs.any fun kv => decide (kv.1 = k) := by
  have e := congrArg (fun l : List κ => l.any fun x => decide (x = k)) r.1
  simpa [List.any_map, Function.comp_def] using e
theorem Rlk.ind {p : List (κ × W) → List (κ × V) → Prop} (h0 : p [] []) (h1 : ∀ k w v kvs ps, Rl K b w v → Rlk K b kvs ps → p kvs ps → p ((k, w) :: kvs) ((k, v) :: ps)) : ∀ {kvs : List (κ × W)} {ps : List (κ × V)}, Rlk K b kvs ps → p kvs ps
  | [], ps, r => by rw [r.inv_nil]; exact h0
  | (k, w) :: kvs, ps, r => by
    obtain ⟨v, qs, rfl, r1, r2⟩ := r.inv
    exact h1 k w v kvs qs r1 r2 (Rlk.ind h0 h1 r2)
theorem Rlk.app (r : Rlk K b kvs ps) (s : Rlk K b more qs) : Rlk K b (kvs ++ more) (ps ++ qs) := Rlk.ind (p := fun a c => Rlk K b (a ++ more) (c ++ qs)) s (fun k w v kvs ps r1 _ ih => .cons r1 ih) r
theorem Rlk.put (r : Rlk K b kvs ps) (k : κ) (rv : Rl K b w v) : Rlk K b (putM kvs k w) (L2.putK ps k v) := by
  unfold putM L2.putK
  rw [r.any k]
  split
  · refine Rlk.ind (p := fun a c => Rlk K b (a.map fun kv => if kv.1 = k then (kv.1, w) else kv) (c.map fun kv => if kv.1 = k then (kv.1, v) else kv)) .nil (fun k' w' v' kvs ps r1 _ ih => ?_) r
    rw [List.map_cons, List.map_cons]
    dsimp only
    by_cases e : k' = k
    · rw [if_pos e, if_pos e]; exact .cons rv ih
    · rw [if_neg e, if_neg e]; exact .cons r1 ih
  · exact r.app (.cons rv .nil)
theorem Rlk.val (r : Rlk K b kvs ps) (k : κ) : match valM kvs k with
    | some w => ∃ v, valV ps k = some v ∧ Rl K b w v
    | none => valV ps k = none := by
  refine Rlk.ind (p := fun kvs ps => match valM kvs k with
    | some w => ∃ v, valV ps k = some v ∧ Rl K b w v
    | none => valV ps k = none) rfl (fun k' w' v' kvs ps r1 _ ih => ?_) r
  by_cases e : k' = k
  · have e1 : valM ((k', w') :: kvs) k = some w' := by simp [valM, e]
    rw [e1]
    exact ⟨v', valV_pos e, r1⟩
  · have e1 : valM ((k', w') :: kvs) k = valM kvs k := by simp [valM, e]
    rw [e1, valV_neg e]
    exact ih
theorem Rlk.drop (r : Rlk K b kvs ps) (k : κ) : Rlk K b (dropM kvs k) (L2.dropK ps k) := by
  unfold dropM L2.dropK
  refine Rlk.ind (p := fun a c => Rlk K b (a.filter fun kv => decide (kv.1 ≠ k)) (c.filter fun kv => decide (kv.1 ≠ k))) .nil (fun k' w' v' kvs ps r1 _ ih => ?_) r
  by_cases e : k' = k
  · rw [List.filter_cons_of_neg (by simp [e]), List.filter_cons_of_neg (by simp [e])]; exact ih
  · rw [List.filter_cons_of_pos (by simp [e]), List.filter_cons_of_pos (by simp [e])]; exact .cons r1 ih
end
theorem Rlk.merge {K : PySem.W.Frag} {b : Bs} {more : List (Key × W)} {qs : List (Key × V)} (s : Rlk K b more qs) : ∀ {kvs : List (Key × W)} {ps : List (Key × V)}, Rlk K b kvs ps → Rlk K b (mergeM kvs more) (L2.mergeK ps qs) := by
  refine Rlk.ind (p := fun more qs => ∀ {kvs : List (Key × W)} {ps : List (Key × V)}, Rlk K b kvs ps → Rlk K b (mergeM kvs more) (L2.mergeK ps qs)) (fun r => r) (fun k w v more qs r1 _ ih => fun r => ?_) s
  exact ih (r.put k r1)
/-- a key as a value -/
def keyOf : W → Option Key
  | .int i => some (.inl i)
  | .str x => some (.inr x)
  | _ => none
theorem keyOf_ok {K : PySem.W.Frag} {b : Bs} {w : W} {v : V} {k : Key} (e : keyOf w = some k) (r : Rl K b w v) : v = kV k := by
  cases r <;> first | (cases e; rfl) | cases e
def keysOf : List (W × W) → Option (List (Key × W))
  | [] => some []
  | (a, w) :: r => (keyOf a).bind fun k => (keysOf r).bind fun kvs => some ((k, w) :: kvs)
section
variable {K : PySem.W.Frag} {b : Bs} {h : MH}
theorem Sim.pushD (S : Sim K b h) {p : Addr} {kvs : List (Key × W)} {ps : List (Key × V)} (hp : b.H p = none) (r : Rlk K b kvs ps) : Ext K b (b.push p (.dK ps)) ∧ Sim K (b.push p (.dK ps)) (h ++ [.dct kvs]) ∧ Rl K (b.push p (.dK ps)) (.ref h.length) (.ref p) := by
  have x : Ext K b (b.push p (.dK ps)) := Ext.push hp
  refine ⟨x, S.push hp ⟨ps, ?_, r.ext x⟩, ?_⟩
  · rw [Bs.push_at]; exact upd_same
  · have q := Rl.ref (K := K) (b := b.push p (.dK ps)) b.n (Nat.lt_succ_self _)
    rw [Bs.push_at, S.len] at q
    exact q
theorem Sim.putD (S : Sim K b h) {i : Nat} {kvs kvs' : List (Key × W)} {ps : List (Key × V)} (e : h[i]? = some (.dct kvs)) (r : Rlk K b kvs' ps) : Ext K b (b.put i (.dK ps)) ∧ Sim K (b.put i (.dK ps)) (h.set i (.dct kvs')) := by
  have x : Ext K b (b.put i (.dK ps)) := Ext.put (S.ob _ _ e) rfl
  exact ⟨x, S.put e rfl rfl ⟨ps, upd_same, r.ext x⟩⟩
end
section
variable {X : Cx} {Wx : WX} {pos : Pos}
def eDict0 : EM := fun _ h => .ok (.ref h.length) (h ++ [.dct []])
theorem se_dict0 : SE X Wx (.Dict [] [] pos) eDict0 := ⟨pe_imp pe_dnewK fun σ H Q ⟨b, h, σm, e, S, l, q⟩ => by
  subst e
  intro p hp
  obtain ⟨x, s, r⟩ := S.pushD (kvs := []) (ps := []) hp .nil
  exact q _ _ x s r⟩
def prs : List (EM × EM) → MS → MH → R (List (W × W))
  | [], _, h => .ok [] h
  | (a, c) :: r, σ, h => (a σ h).bind fun x h1 => (c σ h1).bind fun y h2 => (prs r σ h2).bind fun l h3 => .ok ((x, y) :: l) h3
structure SPs (X : Cx) (Wx : WX) (pos : Pos) (keys : List (Option Expr)) (values : List Expr) (ms : List (EM × EM)) : Prop where
  pp : PPs X pos keys values (ms.map fun m => (tSim X.K Wx m.1, tSim X.K Wx m.2))
theorem sps_nil : SPs X Wx pos [] [] [] := ⟨pps_nil⟩
theorem sps_cons {k v : Expr} {ks : List (Option Expr)} {vs : List Expr} {mk mv : EM} {ms : List (EM × EM)} (hk : SE X Wx k mk) (hv : SE X Wx v mv) (hr : SPs X Wx pos ks vs ms) : SPs X Wx pos (some k :: ks) (v :: vs) ((mk, mv) :: ms) := ⟨pps_cons hk.pe hv.pe hr.pp⟩
def eDict (ms : List (EM × EM)) : EM := fun σ h => (prs ms σ (h ++ [.dct []])).bind fun l h1 => match keysOf l, h1[h.length]? with
  | some kvs, some (.dct []) => if kvs.length ≤ 15 then .ok (.ref h.length) (h1.set h.length (.dct (mergeM [] kvs))) else .stuck
  | _, _ => .stuck
abbrev rPr (K : PySem.W.Frag) : Bs → List (W × W) → List (V × V) → Prop := fun b l ps => Rls K b (l.map (·.1)) (ps.map (·.1)) ∧ Rls K b (l.map (·.2)) (ps.map (·.2)) ∧ l.length = ps.length
theorem prs_read {σ : L2.St} : ∀ (ms : List (EM × EM)) {b : Bs} {h : MH} {σm : MS} {Q : List (V × V) → Hp → Prop}, Sim X.K b h → SlM X.K b σm σ → Post X.K (rPr X.K) (fun c d H' => Wx c d σ H') b Q (prs ms σm h) → tPairs (ms.map fun m => (tSim X.K Wx m.1, tSim X.K Wx m.2)) σ b.H Q
  | [], b, h, σm, Q, S, l, q => q.here S ⟨.nil, .nil, rfl⟩
  | (a, c) :: r, b, h, σm, Q, S, l, q => by
    refine ⟨b, h, σm, rfl, S, l, (Post.bind (rel := Rl X.K) q).mono fun x' H1 ⟨c1, x, h1, e1, E1, S1, r1, q1⟩ => ?_⟩
    subst e1
    refine ⟨c1, h1, σm, rfl, S1, l.ext E1, (Post.bind (rel := Rl X.K) q1).mono fun y' H2 ⟨c2, y, h2, e2, E2, S2, r2, q2⟩ => ?_⟩
    subst e2
    refine prs_read r S2 ((l.ext E1).ext E2) ((Post.bind (rel := rPr X.K) q2).mono fun l' H3 ⟨c3, l3, h3, e3, E3, S3, r3, q3⟩ => ?_)
    subst e3
    obtain ⟨r31, r32, r33⟩ := r3
    exact q3.here S3 ⟨.cons ((r1.ext E2).ext E3) r31, .cons (r2.ext E3) r32, by simp [r33]⟩
theorem keys_read {K : PySem.W.Frag} {b : Bs} : ∀ {l : List (W × W)} {ps : List (V × V)} {kvs : List (Key × W)}, rPr K b l ps → keysOf l = some kvs → ∃ qs : List (Key × V), ps = qs.map (fun kv => (kV kv.1, kv.2)) ∧ Rlk K b kvs qs ∧ qs.length = kvs.length
  | [], [], kvs, _, e => by cases e; exact ⟨[], rfl, .nil, rfl⟩
  | [], _ :: _, _, ⟨_, _, z⟩, _ => nomatch z
  | _ :: _, [], _, ⟨_, _, z⟩, _ => nomatch z
  | (a, w) :: l, (x, y) :: ps, kvs, ⟨r1, r2, r3⟩, e => by
    unfold keysOf at e
    cases e1 : keyOf a with
    | none => rw [e1] at e; cases e
    | some k =>
      rw [e1] at e
      cases e2 : keysOf l with
      | none => rw [e2] at e; cases e
      | some ms =>
        rw [e2] at e
        cases e
        cases r1 with
        | cons r1 rr1 =>
          cases r2 with
          | cons r2 rr2 =>
            obtain ⟨qs, h1, h2, h3⟩ := keys_read (l := l) (ps := ps) ⟨rr1, rr2, by simpa using r3⟩ e2
            refine ⟨(k, y) :: qs, ?_, .cons r2 h2, by simp [h3]⟩
            have e4 : x = kV k := keyOf_ok e1 r1
            rw [List.map_cons, ← h1, e4]
theorem se_dict {keys : List (Option Expr)} {values : List Expr} {ms : List (EM × EM)} (h : SPs X Wx pos keys values ms) (hall : keys.all (·.isSome) = true := by rfl) (hl : keys.length = values.length := by rfl) (h0 : keys ≠ [] := by exact (fun z => nomatch z)) (h15 : keys.length ≤ 15 := by decide) :
    SE X Wx (.Dict keys values pos) (eDict ms) := by
  refine ⟨pe_imp (pe_disp h.pp hall hl h0 h15) fun σ H Q ⟨b, h, σm, e, S, l, q⟩ p hp => ?_⟩
  subst e
  obtain ⟨x, s, r⟩ := S.pushD (kvs := []) (ps := []) hp .nil
  have q := Post.ext q x
  refine prs_read ms s (l.ext x) ((Post.bind (rel := rPr X.K) q).mono fun l' H3 ⟨c3, l3, h3, e3, E3, S3, r3, q3⟩ => ?_)
  subst e3
  have hj : h.length = b.n := S.len.symm
  have at3 : c3.at_ h.length = p := by
    rw [E3.ix _ (by rw [hj]; exact Nat.lt_succ_self _), hj]
    exact Bs.push_at _ _ _
  split at q3
  · rename_i kvs e1 e2
    split at q3
    · rename_i hz
      obtain ⟨qs, h1, h2, h4⟩ := keys_read r3 e1
      obtain ⟨ps, d1, d2, d3⟩ := S3.dict e2
      rw [d2.inv_nil, at3] at d1
      refine ⟨d1, qs, h1, by rw [h4]; exact hz, ?_⟩
      obtain ⟨x4, s4⟩ := S3.putD e2 (Rlk.merge h2 .nil)
      have := q3 _ (.ref p) x4 s4 (by
        have := Rl.ref (K := X.K) (b := c3.put h.length (.dK (L2.mergeK [] qs))) h.length d3
        rw [show (c3.put h.length (.dK (L2.mergeK [] qs))).at_ h.length = p from at3] at this
        exact this)
      rw [show (c3.put h.length (.dK (L2.mergeK [] qs))).H = upd c3.H p (.dK (L2.mergeK [] qs)) from by
        show upd c3.H (c3.at_ h.length) _ = _
        rw [at3]] at this
      exact this
    · exact q3.elim
  · exact q3.elim
end
section
variable {X : Cx} {Wx : WX} {k : Nat} {f : Addr} {fd : FuncData} {ps ks : List Str} {m : FM} {x : Str} {p pos : Pos} {kws : List Keyword} {nk : AM} {g : List Value → List Value → List Value} {gV : List V → List V → List V} {gW : List W → List W → List W} {np : Nat}
/-- f(k = v, ..) -/
theorem se_callK0 (F : FnG X.prog X.w X.K X.mg X.base k f fd ps m) (hr : Room k X.A) (hgd : X.A.guards = some []) (tk : Takes X Wx) (hg : Gl X x) (hm : X.mg x = some (.ref f)) (hk : PySem.W.keepIn X.K (.ref f) = true) (hb : KbG X.K fd ps ks np g gV gW)
    (hkw : SK X Wx kws nk) (hall : (backToKw pos (keywordEach kws X.env)).all (·.1.isSome) = true := by rfl) (hks : (backToKw pos (keywordEach kws X.env)).filterMap (·.1) = ks := by rfl)
    (hdb : (x == ("__debug__" : Str)) = false := by decide)
    (hpl : ((backTo pos (starEach [] X.env)).any (·.1) || (backToKw pos (keywordEach kws X.env)).any (·.1.isNone)) = false := by rfl) :
    SE X Wx (.Call (.Name x p) [] kws pos) (eCallK np ks.length (fun ws zs => m (gW ws zs)) aNil nk) := by
  refine ⟨⟨fun pins s σ H Q I q => ?_⟩⟩
  obtain ⟨b, h, σm, rfl, S, l, q⟩ := q
  refine wpAny_Call_Name_kw (ld_glob I hg hm ?_ hdb)
  refine PySem.W.callWith_KW0 (h₀ := X.base) I.ok.mod.kin hk hall (thn (hkw.pk.run pos pins s σ _ _ I ⟨b, h, σm, rfl, S, l, Post.bind (rel := Rls X.K) (show Post X.K (Rl X.K) (fun c d H' => Wx c d σ H') b Q ((nk σm h).bind fun zs h2 => if ([] : List W).length = np ∧ zs.length = ks.length then m (gW [] zs) h2 else .stuck) from q)⟩) fun zs s2 ⟨ys, H2, I2, r2, c2, xs, h2, e2, E2, S2, l2, q2⟩ => ?_) hpl
  subst e2
  refine ⟨I2.kIn, ?_⟩
  rw [hks]
  exact run_kw F hr hgd tk hb I2 (us := []) (vs := []) (ws := []) .nil r2 S2 .nil l2 q2
end
end PM
/-! Sm12: pairs stored at once, unary minus, binding. -/
noncomputable section
namespace PM
open PySem PySem.Spec L2
open PyProof.Rows hiding St
section
variable {X : Cx} {Wx : WX} {pos : Pos} {a c e : Expr} {ma mc me : EM} {n : AM}
def eNeg (m : EM) : EM := fun σ h => (m σ h).bind fun w h1 => match w with
  | .int i => .ok (.int (-i)) h1
  | _ => .stuck
theorem se_neg (ha : SE X Wx a ma) : SE X Wx (.UnaryOp .USub a pos) (eNeg ma) := ⟨pe_imp (pe_un un_neg ha.pe) fun σ H Q ⟨b, h, σm, e, S, l, q⟩ => by
  refine ⟨b, h, σm, e, S, l, (Post.bind (rel := Rl X.K) q).mono fun x' H1 ⟨c1, x, h1, eH, E1, S1, r1, q1⟩ => ?_⟩
  subst eH
  cases r1 <;> first | exact q1.elim | exact ⟨_, rfl, q1.here S1 (.int _)⟩⟩
/-- a, b = x, y at once -/
def sPar (i j : Nat) (n : AM) : SM := fun σ h => (n σ h).st σ fun ws h1 => match ws with
  | [v, w] => .nx ((σ.set i (some v)).set j (some w)) h1
  | _ => .stuck
theorem ss_par {i j : Nat} {x y : Str} {px py pt : Pos} {kt k2 pt2} (hc : X.calm = true) (hN : X.N.Nodup) (hi : X.N[i]? = some x) (hj : X.N[j]? = some y) (hij : i ≠ j)
    (hx : X.env.scope.names.lookup x = some .local) (hy : X.env.scope.names.lookup y = some .local) (ha : SA X Wx [a, c] n)
    (hw : swappedStores [.Tuple [.Name x px, .Name y py] kt pt] (.Tuple [a, c] k2 pt2) X.env = pure (some [x, y]))
    (hs : swapsWithSole [.Tuple [.Name x px, .Name y py] kt pt] (.Tuple [a, c] k2 pt2) pos.line X.env = pure false := by rfl) :
    SS X Wx (.Assign [.Tuple [.Name x px, .Name y py] kt pt] (.Tuple [a, c] k2 pt2) pos) (sPar i j n) := by
  refine ⟨ps_imp (ps_par hc hN hi hj hij hx hy ha.pa hw hs) fun D σ H ⟨b, h, σm, e, S, l, q⟩ => ?_⟩
  refine ⟨b, h, σm, e, S, l, (PostS.st (rel := Rls X.K) l q).mono fun vs H1 ⟨c1, ws, g, e, x, s, r, p⟩ => ?_⟩
  subst e
  split at p
  · obtain ⟨v, w, rfl, r1, r2⟩ := rls2 r
    exact ⟨v, w, rfl, p c1 _ .refl s (((l.ext x).set i r1).set j r2)⟩
  · exact p.elim
theorem rls3 {K : PySem.W.Frag} {b : Bs} {w x y : W} {vs : List V} (r : Rls K b [w, x, y] vs) : ∃ v u t, vs = [v, u, t] ∧ Rl K b w v ∧ Rl K b x u ∧ Rl K b y t := by
  cases r with
  | cons r rr =>
    obtain ⟨u, t, rfl, r2, r3⟩ := rls2 rr
    exact ⟨_, u, t, rfl, r, r2, r3⟩
def sPar3 (i j k : Nat) (n : AM) : SM := fun σ h => (n σ h).st σ fun ws h1 => match ws with
  | [u, v, w] => .nx (((σ.set i (some u)).set j (some v)).set k (some w)) h1
  | _ => .stuck
theorem ss_par3 {d : Expr} {i j l : Nat} {x y z : Str} {px py pz pt : Pos} {kt k2 pt2} (hc : X.calm = true) (hN : X.N.Nodup) (hi : X.N[i]? = some x) (hj : X.N[j]? = some y) (hl : X.N[l]? = some z) (hij : i ≠ j) (hil : i ≠ l) (hjl : j ≠ l)
    (hx : X.env.scope.names.lookup x = some .local) (hy : X.env.scope.names.lookup y = some .local) (hz : X.env.scope.names.lookup z = some .local) (ha : SA X Wx [a, c, d] n)
    (hw : swappedStores [.Tuple [.Name x px, .Name y py, .Name z pz] kt pt] (.Tuple [a, c, d] k2 pt2) X.env = pure (some [x, y, z]))
    (hs : swapsWithSole [.Tuple [.Name x px, .Name y py, .Name z pz] kt pt] (.Tuple [a, c, d] k2 pt2) pos.line X.env = pure false := by rfl) :
    SS X Wx (.Assign [.Tuple [.Name x px, .Name y py, .Name z pz] kt pt] (.Tuple [a, c, d] k2 pt2) pos) (sPar3 i j l n) := by
  refine ⟨ps_imp (ps_par3 hc hN hi hj hl hij hil hjl hx hy hz ha.pa hw hs) fun D σ H ⟨b, h, σm, e, S, l, q⟩ => ?_⟩
  refine ⟨b, h, σm, e, S, l, (PostS.st (rel := Rls X.K) l q).mono fun vs H1 ⟨c1, ws, g, e, x, s, r, p⟩ => ?_⟩
  subst e
  split at p
  · obtain ⟨u, v, w, rfl, r1, r2, r3⟩ := rls3 r
    exact ⟨u, v, w, rfl, p c1 _ .refl s ((((l.ext x).set _ r1).set _ r2).set _ r3)⟩
  · exact p.elim
end
/-! ### binding -/
/-- the values by place, out of the positional ones and the keywords' -/
def gPerm {α : Type} (p : List Nat) (us ws : List α) : List α := p.filterMap fun i => (us ++ ws)[i]?
theorem perm_vals {p : List Nat} {vs zs : List V} {us ws : List Value} (r : Vals vs us) (s : Vals zs ws) : Vals (gPerm p vs zs) (gPerm p us ws) := by
  have rs := r.append s
  unfold gPerm
  induction p with
  | nil => exact .nil
  | cons i p ih =>
    rw [List.filterMap_cons, List.filterMap_cons]
    cases e : (vs ++ zs)[i]? with
    | none => rw [rs.none_of e]; exact ih
    | some v =>
      obtain ⟨u, hu, ru⟩ := rs.get e
      rw [hu]
      exact .cons ru ih
theorem perm_rls {K : PySem.W.Frag} {b : Bs} {p : List Nat} {us ws : List W} {vs zs : List V} (r : Rls K b us vs) (s : Rls K b ws zs) : Rls K b (gPerm p us ws) (gPerm p vs zs) := by
  have rs := r.append s
  unfold gPerm
  induction p with
  | nil => exact .nil
  | cons i p ih =>
    rw [List.filterMap_cons, List.filterMap_cons]
    cases e : (us ++ ws)[i]? with
    | none =>
      have : (vs ++ zs)[i]? = none := by
        rw [List.getElem?_eq_none_iff] at e ⊢
        rw [← rs.length]; exact e
      rw [this]; exact ih
    | some v =>
      obtain ⟨u, hu, ru⟩ := rs.get e
      rw [hu]
      exact .cons ru ih
section
variable {K : PySem.W.Frag} {x qual : Str} {params : Arguments} {body : List Stmt} {scope : Scope} {kws : List (Str × V)} {f : Addr} {fd : FuncData} {ps ks : List Str}
/-- keywords, no defaults -/
theorem kbG_of (F : FunD K x qual params body scope [] kws f fd) (np : Nat) (p : List Nat)
    (h : ∀ (kV doc pm : Value) (an : Option Addr) (cdv ct : Value) (us ws : List Value), us.length = np → ws.length = ks.length → bindArgs (PySem.W.fnOf x qual params body scope .none kV doc pm an cdv ct) ⟨us, ks.zip ws⟩ = pure (ps.zip (gPerm p us ws))) :
    KbG K fd ps ks np (gPerm p) (gPerm p) (gPerm p) := by
  obtain ⟨oc, od, dV, kV, doc, pm, an, cdv, ct, osl, rfl, lk, hcd, hD, hK⟩ := F.ex
  rcases hD with ⟨_, rfl⟩ | ⟨e, _⟩
  · exact ⟨fun s us ws _ h1 h2 _ => .of_eq (h kV doc pm an cdv ct us ws h1 h2), perm_vals, perm_rls⟩
  · exact absurd rfl e
end
section
variable {X : Cx} {Wx : WX} {k : Nat} {f : Addr} {fd : FuncData} {ps : List Str} {m : FM} {x : Str} {p pos : Pos} {e : Expr} {es : List Expr} {n : AM}
/-- f(e, ..), every parameter written -/
theorem se_callN (F : FnG X.prog X.w X.K X.mg X.base k f fd ps m) (hr : Room k X.A) (hgd : X.A.guards = some []) (tk : Takes X Wx) (hg : Gl X x) (hm : X.mg x = some (.ref f)) (hk : PySem.W.keepIn X.K (.ref f) = true) (hb : Binds X.K fd ps [])
    (ha : SA X Wx (e :: es) n) (hdb : (x == ("__debug__" : Str)) = false := by decide) (he : starEach (e :: es) X.env = (false, eval e X.env) :: starEach es X.env := by rfl) (hpl : (backTo pos (starEach es X.env)).any (·.1) = false := by rfl) :
    SE X Wx (.Call (.Name x p) (e :: es) [] pos) (eCall m n) := by
  have q := se_call (p := p) F hr hgd tk hg hm hk hb (dvs := []) (dws := []) .nil (fun _ => .nil) ha hdb he hpl
  simpa using q
theorem se_callN0 (F : FnG X.prog X.w X.K X.mg X.base k f fd ps m) (hr : Room k X.A) (hgd : X.A.guards = some []) (tk : Takes X Wx) (hg : Gl X x) (hm : X.mg x = some (.ref f)) (hk : PySem.W.keepIn X.K (.ref f) = true) (hb : Binds X.K fd ps [])
    (hdb : (x == ("__debug__" : Str)) = false := by decide) : SE X Wx (.Call (.Name x p) [] [] pos) (eCall m aNil) := by
  have q := se_call0 (Wx := Wx) (p := p) (pos := pos) F hr hgd tk hg hm hk hb (dvs := []) (dws := []) .nil (fun _ => .nil) hdb
  simpa using q
end
def eJoin (mo me : EM) : EM := e2 (fun x y h => match x with
      | .str _ => bJoin x y h
      | _ => .stuck) (fun σ h => (mo σ h).bind fun x g => match x with
      | .str _ => .ok x g
      | _ => .stuck) me
theorem se_join' {X : Cx} {Wx : WX} {pos apos : Pos} {o e : Expr} {mo me : EM} (ho : SE X Wx o mo) (he : SE X Wx e me) (hs : starEach [e] X.env = [(false, eval e X.env)] := by rfl) (hbase : attributeBase o "join" X.env (eval o X.env) = eval o X.env := by rfl) (hline : (apos.endLine == pos.line) = true := by rfl) :
    SE X Wx (.Call (.Attribute o "join" apos) [e] [] pos) (eJoin mo me) := se_join ho he hs hbase hline
section
variable {X : Cx} {Wx : WX} {k : Nat} {f : Addr} {fd : FuncData} {ps ks : List Str} {m : FM} {x : Str} {p pos : Pos} {e : Expr} {es : List Expr} {kws : List Keyword} {n nk : AM} {g : List Value → List Value → List Value} {gV : List V → List V → List V} {gW : List W → List W → List W} {np kn : Nat}
theorem se_callKw0 (F : FnG X.prog X.w X.K X.mg X.base k f fd ps m) (hr : Room k X.A) (hgd : X.A.guards = some []) (tk : Takes X Wx) (hb : KbG X.K fd ps ks np g gV gW) (hn : ks.length = kn) (hg : Gl X x) (hm : X.mg x = some (.ref f)) (hk : PySem.W.keepIn X.K (.ref f) = true)
    (hkw : SK X Wx kws nk) (hall : (backToKw pos (keywordEach kws X.env)).all (·.1.isSome) = true := by rfl) (hks : (backToKw pos (keywordEach kws X.env)).filterMap (·.1) = ks := by rfl)
    (hdb : (x == ("__debug__" : Str)) = false := by decide)
    (hpl : ((backTo pos (starEach [] X.env)).any (·.1) || (backToKw pos (keywordEach kws X.env)).any (·.1.isNone)) = false := by rfl) :
    SE X Wx (.Call (.Name x p) [] kws pos) (eCallK np kn (fun ws zs => m (gW ws zs)) aNil nk) := by
  subst hn
  exact se_callK0 F hr hgd tk hg hm hk hb hkw hall hks hdb hpl
theorem se_callKw (F : FnG X.prog X.w X.K X.mg X.base k f fd ps m) (hr : Room k X.A) (hgd : X.A.guards = some []) (tk : Takes X Wx) (hb : KbG X.K fd ps ks np g gV gW) (hn : ks.length = kn) (hg : Gl X x) (hm : X.mg x = some (.ref f)) (hk : PySem.W.keepIn X.K (.ref f) = true)
    (ha : SA X Wx (e :: es) n) (hkw : SK X Wx kws nk) (hall : (backToKw pos (keywordEach kws X.env)).all (·.1.isSome) = true := by rfl) (hks : (backToKw pos (keywordEach kws X.env)).filterMap (·.1) = ks := by rfl)
    (hdb : (x == ("__debug__" : Str)) = false := by decide) (he : starEach (e :: es) X.env = (false, eval e X.env) :: starEach es X.env := by rfl)
    (hpl : ((backTo pos (starEach (e :: es) X.env)).any (·.1) || (backToKw pos (keywordEach kws X.env)).any (·.1.isNone)) = false := by rfl) :
    SE X Wx (.Call (.Name x p) (e :: es) kws pos) (eCallK np kn (fun ws zs => m (gW ws zs)) n nk) := by
  subst hn
  exact se_callK F hr hgd tk hg hm hk hb ha hkw hall hks hdb he hpl
theorem se_globS {y z : Str} {pos : Pos} (h : ∃ t, X.mg y = some (.str z t)) (hg : Gl X y) (hd : (y == ("__debug__" : Str)) = false := by decide) : SE X Wx (.Name y pos) (eC (.str z)) := by
  obtain ⟨t, h⟩ := h
  exact se_glob (v := .str z) hg h ⟨t, rfl⟩ (fun _ => .str _) hd
theorem se_globI {y : Str} {i : Int} {pos : Pos} (h : ∃ t, X.mg y = some (.int i t)) (hg : Gl X y) (hd : (y == ("__debug__" : Str)) = false := by decide) : SE X Wx (.Name y pos) (eC (.int i)) := by
  obtain ⟨t, h⟩ := h
  exact se_glob (v := .int i) hg h ⟨t, rfl⟩ (fun _ => .int _) hd
end
theorem FunD.same {K : PySem.W.Frag} {x qual : Str} {params : Arguments} {body : List Stmt} {scope : Scope} {dvs : List V} {kws : List (Str × V)} {f : Addr} {fd fd' : FuncData} (F : FunD K x qual params body scope dvs kws f fd) (F' : FunD K x qual params body scope dvs kws f fd') : fd = fd' := by
  obtain ⟨oc, od, dV, kV, doc, pm, an, cdv, ct, osl, _, lk, _⟩ := F.ex
  obtain ⟨oc', od', dV', kV', doc', pm', an', cdv', ct', osl', _, lk', _⟩ := F'.ex
  rw [lk] at lk'
  cases lk'
  rfl
theorem bt_str : bootBuiltins "str" = some (.type "str") := by decide +kernel
theorem bt_int : bootBuiltins "int" = some (.type "int") := by decide +kernel
theorem bt_bool : bootBuiltins "bool" = some (.type "bool") := by decide +kernel
theorem bt_list : bootBuiltins "list" = some (.type "list") := by decide +kernel
theorem bt_tuple : bootBuiltins "tuple" = some (.type "tuple") := by decide +kernel
theorem bt_dict : bootBuiltins "dict" = some (.type "dict") := by decide +kernel
theorem bt_set : bootBuiltins "set" = some (.type "set") := by decide +kernel
theorem bt_range : bootBuiltins "range" = some (.type "range") := by decide +kernel
theorem bt_len : bootBuiltins "len" = some (.builtin "len") := by decide +kernel
theorem bt_isinstance : bootBuiltins "isinstance" = some (.builtin "isinstance") := by decide +kernel
theorem bt_all : bootBuiltins "all" = some (.builtin "all") := by decide +kernel
theorem bt_any : bootBuiltins "any" = some (.builtin "any") := by decide +kernel
theorem bt_repr : bootBuiltins "repr" = some (.builtin "repr") := by decide +kernel
theorem bt_max : bootBuiltins "max" = some (.builtin "max") := by decide +kernel
theorem bt_min : bootBuiltins "min" = some (.builtin "min") := by decide +kernel
theorem bt_sorted : bootBuiltins "sorted" = some (.builtin "sorted") := by decide +kernel
theorem bt_sum : bootBuiltins "sum" = some (.builtin "sum") := by decide +kernel
theorem bt_enumerate : bootBuiltins "enumerate" = some (.type "enumerate") := by decide +kernel
theorem bt_zip : bootBuiltins "zip" = some (.type "zip") := by decide +kernel
end PM
/-! Sm13: reckoning with mirrors. -/
noncomputable section
namespace PM
open PySem L2
section
variable (σ : MS) (h : MH)
@[simp] theorem ev_var (i : Nat) : eVar i σ h = match σ[i]? with
    | some (some w) => .ok w h
    | _ => .stuck := rfl
@[simp] theorem ev_c (w : W) : eC w σ h = .ok w h := rfl
@[simp] theorem ev_e1 (f : W → MH → R W) (a : EM) : e1 f a σ h = (a σ h).bind f := rfl
@[simp] theorem ev_e2 (f : W → W → MH → R W) (a c : EM) : e2 f a c σ h = (a σ h).bind fun x h1 => (c σ h1).bind fun y h2 => f x y h2 := rfl
@[simp] theorem ev_nil : aNil σ h = .ok [] h := rfl
@[simp] theorem ev_cons (m : EM) (n : AM) : aCons m n σ h = (m σ h).bind fun w h1 => (n σ h1).bind fun ws h2 => .ok (w :: ws) h2 := rfl
@[simp] theorem ev_tup (n : AM) : eTup n σ h = (n σ h).bind fun ws h1 => if ws.length ≤ sizeLine then .ok (.tup ws) h1 else .stuck := rfl
@[simp] theorem ev_lst (n : AM) : eLst n σ h = (n σ h).bind fun ws h1 => if ws.length ≤ sizeLine then .ok (.ref h1.length) (h1 ++ [.lst ws]) else .stuck := rfl
@[simp] theorem ev_call (m : List W → MH → R W) (n : AM) : eCall m n σ h = (n σ h).bind m := rfl
@[simp] theorem ev_callK (np nk : Nat) (m : List W → List W → MH → R W) (n k : AM) : eCallK np nk m n k σ h = (n σ h).bind fun ws h1 => (k σ h1).bind fun zs h2 => if ws.length = np ∧ zs.length = nk then m ws zs h2 else .stuck := rfl
@[simp] theorem ev_tru (m : EM) : tTru m σ h = (m σ h).bind truW := rfl
@[simp] theorem ev_tnot (m : TM) : tNotM m σ h = (m σ h).bind fun k h1 => .ok (!k) h1 := rfl
@[simp] theorem ev_tand (m n : TM) : tAndM m n σ h = (m σ h).bind fun k h1 => if k = true then n σ h1 else .ok false h1 := rfl
@[simp] theorem ev_tor (m n : TM) : tOrM m n σ h = (m σ h).bind fun k h1 => if k = true then .ok true h1 else n σ h1 := rfl
@[simp] theorem ev_and (m n : EM) : eAnd m n σ h = (m σ h).bind fun w h1 => (truW w h1).bind fun k h2 => if k = true then n σ h2 else .ok w h2 := rfl
@[simp] theorem ev_or (m n : EM) : eOr m n σ h = (m σ h).bind fun w h1 => (truW w h1).bind fun k h2 => if k = true then .ok w h2 else n σ h2 := rfl
@[simp] theorem ev_not (m : EM) : eNot m σ h = (m σ h).bind fun w h1 => (truW w h1).bind fun k h2 => .ok (.bl (!k)) h2 := rfl
@[simp] theorem ev_if (t : TM) (m n : EM) : eIf t m n σ h = (t σ h).bind fun k h1 => if k = true then m σ h1 else n σ h1 := rfl
@[simp] theorem ev_chain (m n : W → W → MH → R W) (x y z : EM) : eChain m n x y z σ h = (x σ h).bind fun v h1 => (y σ h1).bind fun u h2 => (m v u h2).bind fun t h3 => (truW t h3).bind fun k h4 => if k = true then (z σ h4).bind fun o h5 => n u o h5 else .ok t h4 := rfl
@[simp] theorem ev_neg (m : EM) : eNeg m σ h = (m σ h).bind fun w h1 => match w with
    | .int i => .ok (.int (-i)) h1
    | _ => .stuck := rfl
@[simp] theorem ev_sl (m : EM) (lo hi : OM) : eSl m lo hi σ h = (m σ h).bind fun x h1 => (lo σ h1).bind fun l h2 => (hi σ h2).bind fun u h3 => bSl x l u h3 := rfl
@[simp] theorem ev_ono : oNo σ h = .ok none h := rfl
@[simp] theorem ev_osome (m : EM) : oSome m σ h = (m σ h).bind fun w h1 => match w with
    | .int i => .ok (some i) h1
    | _ => .stuck := rfl
@[simp] theorem ev_dict0 : eDict0 σ h = .ok (.ref h.length) (h ++ [.dct []]) := rfl
@[simp] theorem ev_next : sNext σ h = .nx σ h := rfl
@[simp] theorem ev_seq (m n : SM) : sSeq m n σ h = (m σ h).seq n := rfl
@[simp] theorem ev_stuckS : sStuck σ h = .stuck := rfl
@[simp] theorem ev_break : sBreak σ h = .bk σ h := rfl
@[simp] theorem ev_cont : sCont σ h = .ct σ h := rfl
@[simp] theorem ev_expr (m : EM) : sExpr m σ h = (m σ h).st σ fun _ h1 => .nx σ h1 := rfl
@[simp] theorem ev_ret (m : EM) : sRet m σ h = (m σ h).st σ fun w h1 => .rt w h1 := rfl
@[simp] theorem ev_retN : sRetN σ h = .rt .non h := rfl
@[simp] theorem ev_set (i : Nat) (m : EM) : sSet i m σ h = (m σ h).st σ fun w h1 => .nx (σ.set i (some w)) h1 := rfl
@[simp] theorem ev_sif (t : TM) (m n : SM) : sIf t m n σ h = (t σ h).st σ fun k h1 => if k = true then m σ h1 else n σ h1 := rfl
@[simp] theorem ev_asg (g : GM) (m : EM) : sAsg g m σ h = (m σ h).st σ fun w h1 => match g w σ h1 with
    | some σ' => .nx σ' h1
    | none => .stuck := rfl
@[simp] theorem ev_par (i j : Nat) (n : AM) : sPar i j n σ h = (n σ h).st σ fun ws h1 => match ws with
    | [v, w] => .nx ((σ.set i (some v)).set j (some w)) h1
    | _ => .stuck := rfl
@[simp] theorem ev_par3 (i j k : Nat) (n : AM) : sPar3 i j k n σ h = (n σ h).st σ fun ws h1 => match ws with
    | [u, v, w] => .nx (((σ.set i (some u)).set j (some v)).set k (some w)) h1
    | _ => .stuck := rfl
@[simp] theorem ev_setIx (mo mi mv : EM) : sSetIx mo mi mv σ h = (mv σ h).st σ fun v h1 => (mo σ h1).st σ fun o h2 => (mi σ h2).st σ fun i h3 => match o, i with
    | .ref j, .int k => match mutAt h3 j with
      | some xs => match ixN xs.length k with
        | some n => .nx σ (h3.set j (.lst (xs.set n v)))
        | none => .stuck
      | none => .stuck
    | _, _ => .stuck := rfl
@[simp] theorem ev_for (it : MS → MH → R MI) (g : GM) (body : SM) : sFor it g body σ h = (it σ h).st σ fun mi h1 => forGo mi g body mi.fuel 0 σ h1 := rfl
@[simp] theorem ev_val (m : EM) : iVal m σ h = (m σ h).bind iterW := rfl
@[simp] theorem ev_rng (f : List W → MH → R MI) (n : AM) : iRange f n σ h = (n σ h).bind f := rfl
@[simp] theorem ev_gn (w : W) (i : Nat) : gN i w σ h = some (σ.set i (some w)) := rfl
@[simp] theorem ev_gnil : gNil [] σ h = some σ := rfl
@[simp] theorem ev_gcons (g : GM) (k : GMs) (w : W) (ws : List W) : gCons g k (w :: ws) σ h = (g w σ h).bind fun σ' => k ws σ' h := rfl
@[simp] theorem ev_gtp (n : Nat) (k : GMs) (ws : List W) : gTp n k (.tup ws) σ h = if ws.length = n then k ws σ h else none := rfl
@[simp] theorem ev_yes : tYesM σ h = .ok true h := rfl
@[simp] theorem ev_lc (it : MS → MH → R MI) (vs : List Nat) (g : GM) (t : TM) (m : EM) : eLc it vs g t m σ h = (it σ h).bind fun mi h1 => lcGo mi g t m (wipeM σ vs) h1.length mi.fuel 0 (h1 ++ [.lst []]) := rfl
end
theorem line_eq : (sizeLine : Nat) = 16777216 := sizeLine_eq
/-! ### reading heaps -/
section
variable {h h' : MH} {i j : Nat} {xs ys : List W} {o : Ob}
theorem lst_of_mut (e : mutAt h i = some xs) : lstAt h i = some xs := by
  unfold lstAt; rw [mutAt_eq e]
theorem mut_lt (e : mutAt h i = some xs) : i < h.length := (List.getElem?_eq_some_iff.mp (mutAt_eq e)).1
theorem lst_lt (e : lstAt h i = some xs) : i < h.length := by
  unfold lstAt at e
  split at e
  · rename_i q; exact (List.getElem?_eq_some_iff.mp q).1
  · rename_i q; exact (List.getElem?_eq_some_iff.mp q).1
  · cases e
@[simp] theorem mut_new (h : MH) (xs : List W) : mutAt (h ++ [.lst xs]) h.length = some xs := by
  unfold mutAt; simp
@[simp] theorem lst_new (h : MH) (xs : List W) : lstAt (h ++ [.lst xs]) h.length = some xs := lst_of_mut (mut_new h xs)
theorem mut_app (e : i < h.length) : mutAt (h ++ h') i = mutAt h i := by
  unfold mutAt; rw [List.getElem?_append_left e]
theorem lst_app (e : i < h.length) : lstAt (h ++ h') i = lstAt h i := by
  unfold lstAt; rw [List.getElem?_append_left e]
theorem mut_set (e : i < h.length) : mutAt (h.set i (.lst xs)) i = some xs := by
  unfold mutAt; rw [List.getElem?_set_self e]
theorem lst_set (e : i < h.length) : lstAt (h.set i (.lst xs)) i = some xs := lst_of_mut (mut_set e)
theorem mut_set_ne (e : i ≠ j) : mutAt (h.set i o) j = mutAt h j := by
  unfold mutAt; rw [List.getElem?_set_ne e]
theorem lst_set_ne (e : i ≠ j) : lstAt (h.set i o) j = lstAt h j := by
  unfold lstAt; rw [List.getElem?_set_ne e]
end
/-- all but the object b is as it was -/
structure Fr (b : Nat) (h h' : MH) : Prop where
  le : h.length ≤ h'.length
  at_ : ∀ i, i ≠ b → i < h.length → h'[i]? = h[i]?
theorem Fr.refl {b : Nat} {h : MH} : Fr b h h := ⟨Nat.le_refl _, fun _ _ _ => rfl⟩
theorem Fr.trans {b : Nat} {h1 h2 h3 : MH} (x : Fr b h1 h2) (y : Fr b h2 h3) : Fr b h1 h3 := ⟨Nat.le_trans x.le y.le, fun i hi hl => (y.at_ i hi (Nat.lt_of_lt_of_le hl x.le)).trans (x.at_ i hi hl)⟩
theorem Fr.app {b : Nat} {h : MH} (e : MH) : Fr b h (h ++ e) := ⟨by simp, fun i _ hl => List.getElem?_append_left hl⟩
theorem Fr.set {b : Nat} {h : MH} (o : Ob) : Fr b h (h.set b o) := ⟨by simp, fun i hi _ => List.getElem?_set_ne (fun z => hi z.symm)⟩
theorem Fr.lst {b : Nat} {h h' : MH} (x : Fr b h h') {i : Nat} {xs : List W} (hi : i ≠ b) (e : lstAt h i = some xs) : lstAt h' i = some xs := by
  rw [← e]
  unfold lstAt
  rw [x.at_ i hi (lst_lt e)]
theorem Fr.mut {b : Nat} {h h' : MH} (x : Fr b h h') {i : Nat} {xs : List W} (hi : i ≠ b) (e : mutAt h i = some xs) : mutAt h' i = some xs := by
  rw [← e]
  unfold mutAt
  rw [x.at_ i hi (mut_lt e)]
/-! ### values -/
@[simp] theorem tru_bl (k : Bool) (h : MH) : truW (.bl k) h = .ok k h := rfl
@[simp] theorem add_ii (i j : Int) (h : MH) : bAdd (.int i) (.int j) h = .ok (.int (i + j)) h := rfl
@[simp] theorem sub_ii (i j : Int) (h : MH) : bSub (.int i) (.int j) h = .ok (.int (i - j)) h := rfl
@[simp] theorem lt_ii (i j : Int) (h : MH) : bLt (.int i) (.int j) h = .ok (.bl (decide (i < j))) h := rfl
@[simp] theorem le_ii (i j : Int) (h : MH) : bLe (.int i) (.int j) h = .ok (.bl (decide (i ≤ j))) h := rfl
@[simp] theorem gt_ii (i j : Int) (h : MH) : bGt (.int i) (.int j) h = .ok (.bl (decide (j < i))) h := rfl
@[simp] theorem ge_ii (i j : Int) (h : MH) : bGe (.int i) (.int j) h = .ok (.bl (decide (j ≤ i))) h := rfl
theorem mul_ii {i j : Int} {h : MH} (hz : i.natAbs.log2 + j.natAbs.log2 < 1000000) : bMul (.int i) (.int j) h = .ok (.int (i * j)) h := if_pos hz
theorem log2_lt64 {n : Nat} (h : n < 2 ^ 64) : n.log2 < 64 := by
  by_cases e : n = 0
  · subst e; decide
  · exact (Nat.log2_lt e).mpr h
theorem mul_small {i j : Int} {h : MH} (h1 : i.natAbs < 2 ^ 64) (h2 : j.natAbs < 2 ^ 64) : bMul (.int i) (.int j) h = .ok (.int (i * j)) h := mul_ii (by
  have := log2_lt64 h1
  have := log2_lt64 h2
  omega)
theorem mod_ii {i j : Int} {h : MH} (hz : 0 < j) : bMod (.int i) (.int j) h = .ok (.int (i % j)) h := if_pos (decide_eq_true hz)
theorem div_ii {i j : Int} {h : MH} (hz : 0 < j) (h9 : j.natAbs.log2 < 9000) : bDiv (.int i) (.int j) h = .ok (.int (i / j)) h := if_pos (decide_eq_true ⟨hz, h9⟩)
theorem pow_ii {i j : Int} {h : MH} (h1 : 0 ≤ j) (h2 : j ≤ 1000000) (h3 : i.natAbs < 2 ^ 64) : bPow (.int i) (.int j) h = .ok (.int (i ^ j.toNat)) h := if_pos (decide_eq_true ⟨h1, h2, h3⟩)
theorem add_ss {x y : Str} {h : MH} (hz : x.length + y.length ≤ sizeLine) : bAdd (.str x) (.str y) h = .ok (.str (x ++ y)) h := if_pos hz
@[simp] theorem lt_ss (x y : Str) (h : MH) : bLt (.str x) (.str y) h = .ok (.bl (decide (x.cps.toList < y.cps.toList))) h := rfl
@[simp] theorem le_ss (x y : Str) (h : MH) : bLe (.str x) (.str y) h = .ok (.bl (!decide (y.cps.toList < x.cps.toList))) h := rfl
theorem ix_l {i : Nat} {k : Int} {h : MH} {xs : List W} {w : W} (e : lstAt h i = some xs) (a : atI xs k = some w) : bIx (.ref i) (.int k) h = .ok w h := by
  simp [bIx, seqAt, e, a]
theorem ix_s {x : Str} {k : Int} {h : MH} {c : Nat} (hz : x.length ≤ sizeLine) (a : atI x.cps.toList k = some c) : bIx (.str x) (.int k) h = .ok (.str ⟨#[c]⟩) h := by
  simp [bIx, hz, a]
theorem len_l {i : Nat} {h : MH} {xs : List W} (e : lstAt h i = some xs) : bLen [.ref i] h = .ok (.int xs.length) h := by
  simp [bLen, lenW, e]
theorem len_s {x : Str} {h : MH} (hz : x.length ≤ sizeLine) : bLen [.str x] h = .ok (.int x.length) h := by
  simp [bLen, lenW, hz]
@[simp] theorem max2_ii (i j : Int) (h : MH) : bMax2 [.int i, .int j] h = .ok (.int (if j > i then j else i)) h := rfl
@[simp] theorem min2_ii (i j : Int) (h : MH) : bMin2 [.int i, .int j] h = .ok (.int (if j < i then j else i)) h := rfl
/-! ### == and repr -/
@[simp] theorem data_non (h : MH) (n : Nat) : dataW h n .non = some .none := by cases n <;> rfl
@[simp] theorem data_bl (h : MH) (n : Nat) (k : Bool) : dataW h n (.bl k) = some (.bool k) := by cases n <;> rfl
@[simp] theorem data_int (h : MH) (n : Nat) (i : Int) : dataW h n (.int i) = some (.int i) := by cases n <;> rfl
@[simp] theorem data_str (h : MH) (n : Nat) (x : Str) : dataW h n (.str x) = some (.str x) := by cases n <;> rfl
theorem data_ref {h : MH} {n i : Nat} {xs : List W} {ds : List PyData} (e : lstAt h i = some xs) (d : mapO (dataW h n) xs = some ds) : dataW h (n + 1) (.ref i) = some (.list ds) := by
  simp [dataW, e, d]
theorem data_tup {h : MH} {n : Nat} {xs : List W} {ds : List PyData} (d : mapO (dataW h n) xs = some ds) : dataW h (n + 1) (.tup xs) = some (.tuple ds) := by
  simp [dataW, d]
@[simp] theorem mapO_nil {α β : Type} (f : α → Option β) : mapO f [] = some [] := rfl
@[simp] theorem mapO_cons {α β : Type} (f : α → Option β) (x : α) (xs : List α) : mapO f (x :: xs) = (f x).bind fun y => (mapO f xs).bind fun ys => some (y :: ys) := rfl
theorem eq_of_data {x y : W} {h : MH} {d e : PyData} (hf : eqFlat x y = none) (hx : dataW h 20 x = some d) (hy : dataW h 20 y = some e) (s1 : SeqAt.shaped d = true) (s2 : SeqAt.shaped e = true) : bEq x y h = .ok (.bl (PyData.eqv d e)) h := by
  simp [bEq, hf, hx, hy, s1, s2]
theorem ne_of_data {x y : W} {h : MH} {d e : PyData} (hf : eqFlat x y = none) (hx : dataW h 20 x = some d) (hy : dataW h 20 y = some e) (s1 : SeqAt.shaped d = true) (s2 : SeqAt.shaped e = true) : bNe x y h = .ok (.bl (!PyData.eqv d e)) h := by
  simp [bNe, hf, hx, hy, s1, s2]
theorem shaped_nil : SeqAt.shaped (.list []) = true := by decide
@[simp] theorem eq_ss (x y : Str) (h : MH) : bEq (.str x) (.str y) h = .ok (.bl (x == y)) h := rfl
@[simp] theorem ne_ss (x y : Str) (h : MH) : bNe (.str x) (.str y) h = .ok (.bl (!(x == y))) h := rfl
@[simp] theorem eq_bb (x y : Bool) (h : MH) : bEq (.bl x) (.bl y) h = .ok (.bl (x == y)) h := rfl
@[simp] theorem ne_bb (x y : Bool) (h : MH) : bNe (.bl x) (.bl y) h = .ok (.bl (!(x == y))) h := rfl
@[simp] theorem eq_ii (x y : Int) (h : MH) : bEq (.int x) (.int y) h = .ok (.bl (x == y)) h := rfl
@[simp] theorem ne_ii (x y : Int) (h : MH) : bNe (.int x) (.int y) h = .ok (.bl (!(x == y))) h := rfl
theorem eq_nils {i j : Nat} {h : MH} (hi : lstAt h i = some []) (hj : lstAt h j = some []) : bEq (.ref i) (.ref j) h = .ok (.bl true) h :=
  (eq_of_data rfl (data_ref hi rfl) (data_ref hj rfl) shaped_nil shaped_nil).trans (by rw [PyData.eqv, PyData.eqvAll])
@[simp] theorem repr_bl (k : Bool) (h : MH) : bRepr [.bl k] h = .ok (.str (PyData.shown (.bool k))) h := by
  have e : (PyData.shown (.bool k)).length ≤ sizeLine := by cases k <;> (simp only [PyData.shown]; decide)
  simp [bRepr, PyData.showable, PyData.hasDict, PyData.depth, e]
theorem shown_bl (k : Bool) : PyData.shown (.bool k) = if k then ("True" : Str) else ("False" : Str) := by rw [PyData.shown]
@[simp] theorem is_bb (x y : Bool) (h : MH) : bIs (.bl x) (.bl y) h = .ok (.bl (decide (x = y))) h := rfl
@[simp] theorem isnot_bb (x y : Bool) (h : MH) : bNot (.bl x) (.bl y) h = .ok (.bl (!decide (x = y))) h := rfl
/-! ### loops -/
theorem for_inv {mi : MI} {g : GM} {body : SM} (I : Nat → MS → MH → Prop) (n : Nat) (stop : ∀ σ h, I n σ h → mi.nx n h = some none)
    (step : ∀ i σ h, i < n → I i σ h → ∃ w σ1, mi.nx i h = some (some w) ∧ g w σ h = some σ1 ∧ ∃ σ2 h2, body σ1 h = .nx σ2 h2 ∧ I (i + 1) σ2 h2) :
    ∀ (f i : Nat) (σ : MS) (h : MH), i + f = n → I i σ h → ∃ σ' h', forGo mi g body f i σ h = .nx σ' h' ∧ I n σ' h'
  | 0, i, σ, h, e, hI => by
    obtain rfl : i = n := by omega
    exact ⟨σ, h, by simp [forGo, stop σ h hI], hI⟩
  | f + 1, i, σ, h, e, hI => by
    obtain ⟨w, σ1, e1, e2, σ2, h2, e3, hI2⟩ := step i σ h (by omega) hI
    obtain ⟨σ', h', e4, hI3⟩ := for_inv I n stop step f (i + 1) σ2 h2 (by omega) hI2
    exact ⟨σ', h', by simp [forGo, e1, e2, e3, e4], hI3⟩
/-- a comprehension: j the new list's number; each turn leaves it, and hands on the invariant -/
theorem lc_inv {mi : MI} {g : GM} {t : TM} {e : EM} {σ : MS} {j : Nat} (I : Nat → MH → List W → Prop) (n : Nat) (stop : ∀ h acc, I n h acc → mi.nx n h = some none)
    (step : ∀ i h acc, i < n → mutAt h j = some acc → I i h acc → ∃ w σ1, mi.nx i h = some (some w) ∧ g w σ h = some σ1 ∧
      ((∃ h1, t σ1 h = .ok false h1 ∧ mutAt h1 j = some acc ∧ I (i + 1) h1 acc) ∨
       (∃ h1 y h2, t σ1 h = .ok true h1 ∧ e σ1 h1 = .ok y h2 ∧ mutAt h2 j = some acc ∧ acc.length < sizeLine ∧ I (i + 1) (h2.set j (.lst (acc ++ [y]))) (acc ++ [y])))) :
    ∀ (f i : Nat) (h : MH) (acc : List W), i + f = n → mutAt h j = some acc → I i h acc → ∃ h' acc', lcGo mi g t e σ j f i h = .ok (.ref j) h' ∧ mutAt h' j = some acc' ∧ I n h' acc'
  | 0, i, h, acc, en, ea, hI => by
    obtain rfl : i = n := by omega
    exact ⟨h, acc, by simp [lcGo, stop h acc hI], ea, hI⟩
  | f + 1, i, h, acc, en, ea, hI => by
    obtain ⟨w, σ1, e1, e2, hs⟩ := step i h acc (by omega) ea hI
    rcases hs with ⟨h1, e3, e4, hI2⟩ | ⟨h1, y, h2, e3, e4, e5, hz, hI2⟩
    · obtain ⟨h', acc', e6, e7, hI3⟩ := lc_inv I n stop step f (i + 1) h1 acc (by omega) e4 hI2
      exact ⟨h', acc', by simp [lcGo, e1, e2, e3, e6], e7, hI3⟩
    · obtain ⟨h', acc', e6, e7, hI3⟩ := lc_inv I n stop step f (i + 1) (h2.set j (.lst (acc ++ [y]))) (acc ++ [y]) (by omega) (mut_set (mut_lt e5)) hI2
      exact ⟨h', acc', by simp [lcGo, e1, e2, e3, e4, e5, hz, e6], e7, hI3⟩
/-- parts that only look: over the things φ a, those of p -/
theorem lc_pure {α : Type} {mi : MI} {g : GM} {t : TM} {e : EM} {σ : MS} {h0 : MH} (xs : List α) (φ : α → W) (p : α → Bool) (f : α → W) (hz : xs.length ≤ sizeLine) (hw : ∀ i acc, mi.nx i (h0 ++ [.lst acc]) = some (xs[i]?.map φ))
    (hb : ∀ a ∈ xs, ∀ acc, ∃ σ1, g (φ a) σ (h0 ++ [.lst acc]) = some σ1 ∧ t σ1 (h0 ++ [.lst acc]) = .ok (p a) (h0 ++ [.lst acc]) ∧ (p a = true → e σ1 (h0 ++ [.lst acc]) = .ok (f a) (h0 ++ [.lst acc]))) :
    lcGo mi g t e σ h0.length xs.length 0 (h0 ++ [.lst []]) = .ok (.ref h0.length) (h0 ++ [.lst ((xs.filter p).map f)]) := by
  obtain ⟨h', acc', e1, e2, i1, i2⟩ := lc_inv (mi := mi) (g := g) (t := t) (e := e) (σ := σ) (j := h0.length) (fun i h acc => h = h0 ++ [.lst acc] ∧ acc = ((xs.take i).filter p).map f) xs.length
    (fun h acc ⟨e1, _⟩ => by rw [e1, hw, List.getElem?_eq_none (Nat.le_refl _)]; rfl)
    (fun i h acc hi _ ⟨e1, e2⟩ => by
      subst e1
      obtain ⟨σ1, g1, t1, el⟩ := hb xs[i] (List.getElem_mem hi) acc
      refine ⟨φ xs[i], σ1, by rw [hw, List.getElem?_eq_getElem hi]; rfl, g1, ?_⟩
      have tk : xs.take (i + 1) = xs.take i ++ [xs[i]] := by simp [hi]
      cases hp : p xs[i] with
      | false =>
        rw [hp] at t1
        exact .inl ⟨_, t1, mut_new _ _, rfl, by rw [tk, List.filter_append]; simp [hp, e2]⟩
      | true =>
        rw [hp] at t1
        refine .inr ⟨_, f xs[i], _, t1, el hp, mut_new _ _, ?_, ?_, by rw [tk, List.filter_append]; simp [hp, e2]⟩
        · rw [e2, List.length_map]
          have h1 : ((xs.take i).filter p).length ≤ (xs.take i).length := List.length_filter_le _ _
          rw [List.length_take] at h1
          omega
        · rw [List.set_append_right _ _ (Nat.le_refl _)]; simp) xs.length 0 _ [] (by omega) (mut_new _ _) ⟨rfl, rfl⟩
  rw [e1, i1, i2, List.take_length]
/-- all of them -/
theorem lc_map {α : Type} {mi : MI} {g : GM} {e : EM} {σ : MS} {h0 : MH} (xs : List α) (φ : α → W) (f : α → W) (hz : xs.length ≤ sizeLine) (hw : ∀ i acc, mi.nx i (h0 ++ [.lst acc]) = some (xs[i]?.map φ))
    (hb : ∀ a ∈ xs, ∀ acc, ∃ σ1, g (φ a) σ (h0 ++ [.lst acc]) = some σ1 ∧ e σ1 (h0 ++ [.lst acc]) = .ok (f a) (h0 ++ [.lst acc])) :
    lcGo mi g tYesM e σ h0.length xs.length 0 (h0 ++ [.lst []]) = .ok (.ref h0.length) (h0 ++ [.lst (xs.map f)]) := by
  have q := lc_pure (t := tYesM) xs φ (fun _ => true) f hz hw fun a ha acc => by
    obtain ⟨σ1, h1, h2⟩ := hb a ha acc
    exact ⟨σ1, h1, rfl, fun _ => h2⟩
  have : xs.filter (fun _ => true) = xs := List.filter_eq_self.mpr fun _ _ => rfl
  rw [this] at q
  exact q
/-- none of them -/
theorem lc_none {α : Type} {mi : MI} {g : GM} {t : TM} {e : EM} {σ : MS} {h0 : MH} (xs : List α) (φ : α → W) (hz : xs.length ≤ sizeLine) (hw : ∀ i acc, mi.nx i (h0 ++ [.lst acc]) = some (xs[i]?.map φ))
    (hb : ∀ a ∈ xs, ∀ acc, ∃ σ1, g (φ a) σ (h0 ++ [.lst acc]) = some σ1 ∧ t σ1 (h0 ++ [.lst acc]) = .ok false (h0 ++ [.lst acc])) :
    lcGo mi g t e σ h0.length xs.length 0 (h0 ++ [.lst []]) = .ok (.ref h0.length) (h0 ++ [.lst []]) := by
  have q := lc_pure (e := e) xs φ (fun _ => false) φ hz hw fun a ha acc => by
    obtain ⟨σ1, h1, h2⟩ := hb a ha acc
    exact ⟨σ1, h1, h2, fun z => nomatch z⟩
  have : xs.filter (fun _ => false) = [] := List.filter_eq_nil_iff.mpr fun _ _ z => nomatch z
  rw [this] at q
  exact q
theorem in_sign (neg : Bool) (c : Nat) (z : Str) (h : MH) : inG neg (.str ⟨#[c]⟩) (.str z) h = .ok (.bl (if neg then !decide (c ∈ z.cps.toList) else decide (c ∈ z.cps.toList))) h := by
  exact if_pos (e := R.stuck) (show (⟨#[c]⟩ : Str).length = 1 from rfl)
theorem nx_str (x : Str) (i : Nat) (h : MH) : (itS x).nx i h = some (x.cps.toList[i]?.map fun c => .str ⟨#[c]⟩) := rfl
@[simp] theorem fuel_str (x : Str) : (itS x).fuel = x.cps.toList.length := by simp [itS, Str.length]
@[simp] theorem fuel_lst (i : Nat) (xs : List W) : (itL i xs).fuel = xs.length := rfl
@[simp] theorem fuel_tup (xs : List W) : (itT xs).fuel = xs.length := rfl
@[simp] theorem fuel_rng (lo : Int) (n : Nat) : (itR lo n).fuel = n := rfl
theorem nx_lst {i k : Nat} {xs ys : List W} {h : MH} (e : lstAt h i = some ys) : (itL i xs).nx k h = some (ys[k]?.map id) := by
  simp [itL, e]
theorem nx_tup (xs : List W) (k : Nat) (h : MH) : (itT xs).nx k h = some (xs[k]?.map id) := by
  simp [itT]
theorem nx_rng (lo : Int) (n k : Nat) (h : MH) : (itR lo n).nx k h = some ((List.range n)[k]?.map fun (j : Nat) => .int (lo + j)) := by
  unfold itR
  dsimp only
  by_cases hk : k < n
  · simp [hk]
  · simp [hk]
theorem blsOf_map {α : Type} (l : List α) (p : α → Bool) : blsOf (l.map fun a => W.bl (p a)) = some (l.map p) := by
  induction l with
  | nil => rfl
  | cons a l ih => simp [blsOf, ih]
theorem all_l {i : Nat} {h : MH} {l : List W} {ks : List Bool} {f : List Bool → Bool} (e : lstAt h i = some l) (b : blsOf l = some ks) : bAll f [.ref i] h = .ok (.bl (f ks)) h := by
  simp [bAll, e, b]
theorem iter_l {i : Nat} {h : MH} {xs : List W} (e : lstAt h i = some xs) : iterW (.ref i) h = .ok (itL i xs) h := by
  simp [iterW, e]
@[simp] theorem iter_s (x : Str) (h : MH) : iterW (.str x) h = .ok (itS x) h := rfl
@[simp] theorem iter_t (xs : List W) (h : MH) : iterW (.tup xs) h = .ok (itT xs) h := rfl
end PM
/-! Sm14: texts, and == with nothing. -/
noncomputable section
namespace PM
open PySem L2
/-- a text's signs are signs -/
def Cp (x : Str) : Prop := ∀ c ∈ x.cps.toList, c < 0x110000
theorem Cp.ok {x : Str} (p : Cp x) : PyData.strOk x = true := by
  unfold PyData.strOk
  rw [← Array.all_toList, List.all_eq_true]
  intro c hc
  exact decide_eq_true (p c hc)
theorem app_cps (x y : Str) : (x ++ y).cps.toList = x.cps.toList ++ y.cps.toList := by
  rw [show (x ++ y).cps = x.cps ++ y.cps from rfl, Array.toList_append]
theorem Cp.app {x y : Str} (p : Cp x) (q : Cp y) : Cp (x ++ y) := by
  intro c hc
  rw [app_cps, List.mem_append] at hc
  exact hc.elim (p c) (q c)
theorem Cp.one {c : Nat} (p : c < 0x110000) : Cp ⟨#[c]⟩ := by
  intro d hd
  simp at hd
  omega
theorem len_cps (x : Str) : x.length = x.cps.toList.length := by simp [Str.length]
theorem app_len (x y : Str) : (x ++ y).length = x.length + y.length := by
  rw [len_cps, len_cps, len_cps, app_cps, List.length_append]
theorem one_len (c : Nat) : (⟨#[c]⟩ : Str).length = 1 := rfl
theorem cut_cps (x : Str) (lo hi : Option Int) : (cutS x lo hi).cps.toList = (x.cps.toList.drop (HT.sIx x.length 0 lo)).take (HT.sIx x.length x.length hi - HT.sIx x.length 0 lo) := rfl
theorem Cp.cut {x : Str} (p : Cp x) (lo hi : Option Int) : Cp (cutS x lo hi) := by
  intro c hc
  rw [cut_cps] at hc
  exact p c (List.mem_of_mem_drop (List.mem_of_mem_take hc))
theorem cut_len (x : Str) (lo hi : Option Int) : (cutS x lo hi).length ≤ x.length := by
  rw [len_cps, len_cps x, cut_cps, List.length_take, List.length_drop]
  omega
/-- one text laid many times -/
def repS (x : Str) (k : Int) : Str := ⟨(List.replicate k.toNat x.cps.toList).flatten.toArray⟩
theorem Cp.rep {x : Str} (p : Cp x) (k : Int) : Cp (repS x k) := by
  intro c hc
  have : c ∈ (List.replicate k.toNat x.cps.toList).flatten := hc
  obtain ⟨l, h1, h2⟩ := List.mem_flatten.mp this
  rw [List.mem_replicate] at h1
  exact p c (h1.2 ▸ h2)
theorem rep_len (x : Str) (k : Int) : (repS x k).length = k.toNat * x.length := by
  rw [len_cps, len_cps x]
  show (List.replicate k.toNat x.cps.toList).flatten.toArray.toList.length = _
  simp
theorem mul_si {x : Str} {k : Int} {h : MH} (h1 : -(2 ^ 63) ≤ k) (h2 : k < 2 ^ 63) (h3 : x.length * k.toNat ≤ sizeLine) : bMul (.str x) (.int k) h = .ok (.str (repS x k)) h := if_pos ⟨h1, h2, h3⟩
theorem sl_s {x : Str} {lo hi : Option Int} {h : MH} (hz : x.length ≤ sizeLine) : bSl (.str x) lo hi h = .ok (.str (cutS x lo hi)) h := if_pos hz
theorem Cp.nil : Cp "" := by
  intro c hc
  rw [show ("" : Str).cps.toList = [] by decide] at hc
  cases hc
theorem Cp.join {l : List Str} (p : ∀ x ∈ l, Cp x) : Cp (Txt.join "" l) := by
  rw [TL.join_eq]
  induction l with
  | nil => exact Cp.nil
  | cons x r ih =>
    cases r with
    | nil => exact p x (.head _)
    | cons y r =>
      show Cp (x ++ "" ++ Str.join "" (y :: r))
      exact ((p x (.head _)).app Cp.nil).app (ih fun z hz => p z (.tail _ hz))
theorem join_len {l : List Str} (p : ∀ x ∈ l, x.length = 1) : (Txt.join "" l).length = l.length := by
  rw [TL.join_eq]
  induction l with
  | nil => rfl
  | cons x r ih =>
    cases r with
    | nil => exact p x (.head _)
    | cons y r =>
      show (x ++ "" ++ Str.join "" (y :: r)).length = _
      rw [app_len, app_len, ih fun z hz => p z (.tail _ hz), p x (.head _), show ("" : Str).length = 0 from rfl]
      simp only [List.length_cons]
      omega
theorem shaped_strs {l : List Str} (p : ∀ x ∈ l, Cp x) : SeqAt.shaped (.list (l.map PyData.str)) = true := by
  have h1 : PyData.canLayAll0 (l.map PyData.str) = true := by
    induction l with
    | nil => rfl
    | cons x r ih => simp [PyData.canLayAll0, PyData.canLay0, (p x (.head _)).ok, ih fun z hz => p z (.tail _ hz)]
  have h2 : PyData.depthAll (l.map PyData.str) = 0 := by
    clear h1 p
    induction l with
    | nil => rfl
    | cons x r ih => simp [PyData.depthAll, PyData.depth, ih]
  simp [SeqAt.shaped, PyData.canLay0, PyData.depth, h1, h2]
theorem data_strs {h : MH} {n : Nat} : ∀ l : List Str, mapO (dataW h n) (l.map W.str) = some (l.map PyData.str)
  | [] => rfl
  | x :: l => by simp [data_strs l]
/-- a list of texts against an empty one -/
theorem eq_strs_nil {i j : Nat} {h : MH} {l : List Str} (hi : lstAt h i = some (l.map W.str)) (hj : lstAt h j = some []) (p : ∀ x ∈ l, Cp x) : bEq (.ref i) (.ref j) h = .ok (.bl (decide (l = []))) h := by
  refine (eq_of_data rfl (data_ref hi (data_strs l)) (data_ref hj rfl) (shaped_strs p) shaped_nil).trans ?_
  cases l with
  | nil => simp [PyData.eqv, PyData.eqvAll]
  | cons x r => simp [PyData.eqv, PyData.eqvAll]
theorem join_l {i : Nat} {h : MH} {xs : List W} {ys : List Str} (e : lstAt h i = some xs) (s : strsOf xs = some ys) (hz : (ys.map (·.length)).sum ≤ 16777216) : bJoin (.str "") (.ref i) h = .ok (.str (Txt.join "" ys)) h := by
  have : (ys.map (·.length)).sum + ys.length * ("" : Str).length ≤ 16777216 := by
    rw [show ("" : Str).length = 0 from rfl]; omega
  simp [bJoin, seqAt, e, s, this]
theorem strsOf_map : ∀ l : List Str, strsOf (l.map W.str) = some l
  | [] => rfl
  | x :: l => by simp [strsOf, strsOf_map l]
theorem sum_ones : ∀ {l : List Str}, (∀ x ∈ l, x.length = 1) → (l.map (·.length)).sum = l.length
  | [], _ => rfl
  | x :: l, p => by
    have := sum_ones fun y hy => p y (.tail _ hy)
    simp [p x (.head _), this]
    omega
@[simp] theorem ev_join (m n : EM) (σ : MS) (h : MH) : eJoin m n σ h = ((m σ h).bind fun x g => match x with
      | .str _ => .ok x g
      | _ => .stuck).bind fun x h1 => (n σ h1).bind fun y h2 => match x with
      | .str _ => bJoin x y h2
      | _ => .stuck := rfl
theorem rng1_i {j : Int} {h : MH} (h1 : -(2 ^ 62) ≤ j) (h2 : j < 2 ^ 62) : rng1 [.int j] h = .ok (itR 0 j.toNat) h := if_pos ⟨h1, h2⟩
theorem rng2_i {i j : Int} {h : MH} (h1 : -(2 ^ 62) ≤ i) (h2 : i < 2 ^ 62) (h3 : -(2 ^ 62) ≤ j) (h4 : j < 2 ^ 62) : rng2 [.int i, .int j] h = .ok (itR i (j - i).toNat) h := if_pos ⟨h1, h2, h3, h4⟩
@[simp] theorem set_end (h : MH) (o p : Ob) : (h ++ [o]).set h.length p = h ++ [p] := by
  rw [List.set_append_right _ _ (Nat.le_refl _)]
  simp
theorem dict1 {m n : EM} {σ : MS} {h : MH} {x w : W} {k : Key} (hm : ∀ g, m σ g = .ok x g) (hn : ∀ g, n σ g = .ok w g) (hk : keyOf x = some k) : eDict [(m, n)] σ h = .ok (.ref h.length) (h ++ [.dct [(k, w)]]) := by
  simp [eDict, prs, hm, hn, keysOf, hk, mergeM, putM]
theorem at_end (h : MH) (o : Ob) : (h ++ [o])[h.length]? = some o := by simp
theorem isi_l {i : Nat} {h : MH} {xs : List W} {n : String} (e : lstAt h i = some xs) : bIsi [.ref i, .ty n] h = match isB "list" n with
    | some r => .ok (.bl r) h
    | none => .stuck := by
  simp [bIsi, tyB, e]
  all_goals (cases isB "list" n <;> rfl)
theorem isi_d {i : Nat} {h : MH} {kvs : List (Key × W)} {n : String} (e : h[i]? = some (.dct kvs)) : bIsi [.ref i, .ty n] h = match isB "dict" n with
    | some r => .ok (.bl r) h
    | none => .stuck := by
  simp [bIsi, tyB, lstAt, e]
  all_goals (cases isB "dict" n <;> rfl)
theorem lst_at {i : Nat} {h : MH} {xs : List W} (e : h[i]? = some (.lst xs)) : lstAt h i = some xs := by
  simp [lstAt, e]
theorem get_app {h : MH} {i k : Nat} (l : MH) (e : i = h.length + k) : (h ++ l)[i]? = l[k]? := by
  subst e
  rw [List.getElem?_append_right (by omega), Nat.add_sub_cancel_left]
theorem Fr.set_new {b : Nat} {h h' : MH} {j : Nat} {o : Ob} (x : Fr b h h') (hj : h.length ≤ j) : Fr b h (h'.set j o) := ⟨by simpa using x.le, fun i hi hl => by rw [List.getElem?_set_ne (by omega), x.at_ i hi hl]⟩
end PM
/-! Sm15: own classes: fields, methods, instances; defs with defaults. -/
noncomputable section
namespace PM
open PySem PySem.Spec L2
open PyProof.Rows hiding St
section
variable {K : PySem.W.Frag} {b : Bs} {h : MH} {p : Addr} {o : HO}
/-- an object beside the mirror's -/
def Bs.hid (b : Bs) (p : Addr) (o : HO) : Bs := ⟨b.at_, b.n, upd b.H p o, b.Z⟩
theorem Ext.hid (hp : b.H p = none) : PM.Ext K b (b.hid p o) :=
  ⟨Nat.le_refl _, fun _ _ => rfl, fun a xs h => sqT_upd h fun q e => (by rw [hp] at e; cases e), fun a o' u h => (upd_ne (ne_of_none h hp)).trans h, fun _ _ h => h⟩
theorem Sim.hid (S : Sim K b h) (hp : b.H p = none) : Sim K (b.hid p o) h :=
  ⟨S.len, fun i u e => (S.ob i u e).keep (Ext.hid hp) (S.lt e) fun q _ hq => by
    show upd b.H p o _ = _
    rw [upd_ne (ne_of_none hq hp)]
    exact hq, S.inj, fun a u e => zok_new (S.zh a u e) hp, S.zd⟩
/-- a new instance -/
theorem Sim.made (S : Sim K b h) {x dx : Addr} {C : Str} (hx : b.H x = none) (hd : b.H dx = none) (ne : dx ≠ x) :
    PM.Ext K b ((b.hid dx (.own x)).push x (.ins (He.ga K C) dx [])) ∧ Sim K ((b.hid dx (.own x)).push x (.ins (He.ga K C) dx [])) (h ++ [.ins C []]) ∧ Rl K ((b.hid dx (.own x)).push x (.ins (He.ga K C) dx [])) (.ref h.length) (.ref x) := by
  have hx' : (b.hid dx (.own x)).H x = none := by
    show upd b.H dx _ x = none
    rw [upd_ne (Ne.symm ne)]; exact hx
  have S1 : Sim K (b.hid dx (.own x)) h := S.hid hd
  refine ⟨(Ext.hid hd).trans (Ext.push hx'), S1.push hx' ⟨dx, [], ?_, .nil⟩, ?_⟩
  · rw [Bs.push_at]; exact upd_same
  · have : (b.hid dx (.own x)).n = h.length := S.len
    rw [← this]
    have r := Rl.ref (K := K) (b := (b.hid dx (.own x)).push x (.ins (He.ga K C) dx [])) (b.hid dx (.own x)).n (Nat.lt_succ_self _)
    rwa [Bs.push_at] at r
end
/-! ### fields -/
def fldM (fs : List (Str × W)) (f : Str) : Option W := (fs.find? fun p => decide (p.1 = f)).map (·.2)
def putFM (f : Str) (w : W) : List (Str × W) → List (Str × W)
  | [] => [(f, w)]
  | (g, y) :: r => if g = f then (g, w) :: r else (g, y) :: putFM f w r
section
variable {K : PySem.W.Frag} {b : Bs} {fs : List (Str × W)} {ps : List (Str × V)} {f : Str} {w : W} {v : V}
theorem Rlk.lookup (r : Rlk K b fs ps) (e : fldM fs f = some w) : ∃ v, ps.lookup f = some v ∧ Rl K b w v := by
  induction fs generalizing ps with
  | nil => cases e
  | cons p fs ih =>
    obtain ⟨g, y⟩ := p
    obtain ⟨v, qs, rfl, r1, r2⟩ := r.inv
    unfold fldM at e
    rw [List.find?_cons] at e
    by_cases hg : g = f
    · subst hg
      simp at e; subst e
      exact ⟨v, by simp [List.lookup], r1⟩
    · have : decide (g = f) = false := decide_eq_false hg
      simp only [this] at e
      obtain ⟨v', h1, h2⟩ := ih r2 e
      refine ⟨v', ?_, h2⟩
      rw [List.lookup_cons]
      have : (f == g) = false := by simpa using fun z => hg z.symm
      rw [this]; exact h1
theorem Rlk.lookup_none (r : Rlk K b fs ps) (e : fldM fs f = none) : ps.lookup f = none := by
  induction fs generalizing ps with
  | nil => rw [r.inv_nil]; rfl
  | cons p fs ih =>
    obtain ⟨g, y⟩ := p
    obtain ⟨v, qs, rfl, r1, r2⟩ := r.inv
    unfold fldM at e
    rw [List.find?_cons] at e
    by_cases hg : g = f
    · subst hg
      simp at e
    · have : decide (g = f) = false := decide_eq_false hg
      simp only [this] at e
      rw [List.lookup_cons]
      have : (f == g) = false := by simpa using fun z => hg z.symm
      rw [this]; exact ih r2 e
end
section
variable {K : PySem.W.Frag} {b : Bs} {fs : List (Str × W)} {ps : List (Str × V)} {f : Str} {w : W} {v : V}
theorem Rlk.putF (r : Rlk K b fs ps) (q : Rl K b w v) : Rlk K b (putFM f w fs) (L2.putF f v ps) := by
  induction fs generalizing ps with
  | nil => rw [r.inv_nil]; exact Rlk.cons q .nil
  | cons p fs ih =>
    obtain ⟨g, y⟩ := p
    obtain ⟨v', qs, rfl, r1, r2⟩ := r.inv
    show Rlk K b (if g = f then (g, w) :: fs else (g, y) :: putFM f w fs) (if g = f then (g, v) :: qs else (g, v') :: L2.putF f v qs)
    by_cases hg : g = f
    · rw [if_pos hg, if_pos hg]; exact Rlk.cons q r2
    · rw [if_neg hg, if_neg hg]; exact Rlk.cons r1 (ih r2)
theorem Rlk.len {κ : Type} {fs : List (κ × W)} {ps : List (κ × V)} (r : Rlk K b fs ps) : ps.length = fs.length := by
  have := congrArg List.length r.1
  simpa using this
end
/-- e.f: a field of an instance of a class of cs, no class of which has the name -/
def eFld (cs : List Str) (f : Str) (m : EM) : EM := fun σ h => (m σ h).bind fun x g => match insW g x with
  | some (C, fs) => if C ∈ cs then match fldM fs f with
    | some w => .ok w g
    | none => .stuck else .stuck
  | none => .stuck
section
variable {X : Cx} {Wx : WX} {e o value : Expr} {f : Str} {cs : List Str} {m mo mv : EM} {pos pos' : Pos}
theorem se_fld (hc : ∀ C ∈ cs, Cls X.K (He.ga X.K C) ∧ NoAttr X.K (He.ga X.K C) f) (he : SE X Wx e m) (hb : attributeBase e f X.env (eval e X.env) = eval e X.env := by rfl) : SE X Wx (.Attribute e f pos) (eFld cs f m) := by
  refine ⟨pe_imp (pe_fld he.pe hb) fun σ H Q ⟨b, h, σm, eH, S, l, q⟩ => ?_⟩
  refine ⟨b, h, σm, eH, S, l, (Post.bind (rel := Rl X.K) q).mono fun x' H1 ⟨c1, x, h1, eH, E1, S1, r1, q1⟩ => ?_⟩
  subst eH
  cases ei : insW h1 x with
  | none => rw [ei] at q1; exact q1.elim
  | some z =>
    obtain ⟨C, fs⟩ := z
    rw [ei] at q1
    dsimp only at q1
    by_cases hC : C ∈ cs
    case neg => rw [if_neg hC] at q1; exact q1.elim
    rw [if_pos hC] at q1
    cases ef : fldM fs f with
    | none => rw [ef] at q1; exact q1.elim
    | some w =>
      rw [ef] at q1
      obtain ⟨a, dx, ps, rfl, h2, r2⟩ := S1.insW r1 ei
      obtain ⟨v, h3, r3⟩ := r2.lookup ef
      exact ⟨_, _, dx, ps, v, rfl, h2, (hc C hC).1, (hc C hC).2, h3, q1.here S1 r3⟩
/-- o.f = value -/
def sFldM (cs : List Str) (f : Str) (mo mv : EM) : SM := fun σ h => (mv σ h).st σ fun y h1 => (mo σ h1).st σ fun x h2 => match x with
  | .ref i => match insAt h2 i with
    | some (C, fs) => if C ∈ cs ∧ fs.length < 1000 then .nx σ (h2.set i (.ins C (putFM f y fs))) else .stuck
    | none => .stuck
  | _ => .stuck
theorem ss_fld (hc : ∀ C ∈ cs, Cls X.K (He.ga X.K C) ∧ NoAttr X.K (He.ga X.K C) f) (ho : SE X Wx o mo) (hv : SE X Wx value mv) (hs : swapsWith value (some (.Attribute o f pos')) pos.line X.env = pure false := by rfl) :
    SS X Wx (.Assign [.Attribute o f pos'] value pos) (sFldM cs f mo mv) := by
  refine ⟨ps_imp (ps_fld ho.pe hv.pe hs) fun D σ H ⟨b, h, σm, eH, S, l, q⟩ => ?_⟩
  refine ⟨b, h, σm, eH, S, l, (PostS.st (rel := Rl X.K) l q).mono fun y' H1 ⟨c1, y, h1, eH, E1, S1, r1, q1⟩ => ?_⟩
  subst eH
  refine ⟨c1, h1, σm, rfl, S1, l.ext E1, (PostS.st (rel := Rl X.K) (l.ext E1) q1).mono fun x' H2 ⟨c2, x, h2, eH, E2, S2, r2, q2⟩ => ?_⟩
  subst eH
  cases r2 with
  | ref i hi =>
    dsimp only at q2
    cases ei : insAt h2 i with
    | none => rw [ei] at q2; exact q2.elim
    | some z =>
      obtain ⟨C, fs⟩ := z
      rw [ei] at q2
      dsimp only at q2
      by_cases hC : C ∈ cs ∧ fs.length < 1000
      case neg => rw [if_neg hC] at q2; exact q2.elim
      rw [if_pos hC] at q2
      obtain ⟨dx, ps, h3, r3⟩ := S2.ins ei
      refine ⟨_, _, dx, ps, rfl, h3, (hc C hC.1).1, (hc C hC.1).2, by rw [r3.len]; exact hC.2, ?_⟩
      have ex : PM.Ext X.K c2 (c2.put i (.ins (He.ga X.K C) dx (L2.putF f y' ps))) := Ext.put (S2.ob i _ (insAt_eq ei)) rfl
      exact q2 (c2.put i (.ins (He.ga X.K C) dx (L2.putF f y' ps))) _ ex (S2.put (insAt_eq ei) rfl rfl ⟨dx, _, upd_same, (r3.putF (r1.ext E2)).ext ex⟩) (((l.ext E1).ext E2).ext ex)
  | _ => exact q2.elim
end
end PM
/-! Sm16: what may be called: defs with defaults, methods, classes. -/
noncomputable section
namespace PM
open PySem PySem.Spec L2
open PyProof.Rows hiding St
/-- tgt, called with np values and keywords named ks, does what m tells -/
structure CalG (X : Cx) (Wx : WX) (tgt : Value) (np : Nat) (ks : List Str) (m : List W → List W → MH → R W) : Prop where
  run : ∀ {pins : List (Addr × Obj)} {σ : L2.St} {b : Bs} {h : MH} {s : Shared} {Q : VK} {us zs : List Value} {vs ys : List V} {ws xs : List W},
    Inv X pins σ b.H s → Vals vs us → Vals ys zs → Sim X.K b h → Rls X.K b ws vs → Rls X.K b xs ys → Post X.K (Rl X.K) (fun c d H' => Wx c d σ H') b Q (if ws.length = np ∧ xs.length = ks.length then m ws xs h else .stuck) →
    wpAny (model X.prog X.w) X.A (call tgt us (ks.zip zs)) (EP X pins σ Q) X.xe s
  kp : PySem.W.keepIn X.K tgt = true
section
variable {X : Cx} {Wx : WX} {k : Nat} {f : Addr} {fd : FuncData} {ps ks : List Str} {m : FM} {x C mn : Str} {p pos apos : Pos} {e o : Expr} {es : List Expr} {kws : List Keyword} {mo : EM} {n nk : AM} {np kn : Nat} {g : List Value → List Value → List Value} {gV : List V → List V → List V} {gW : List W → List W → List W}
  {mm : List W → List W → MH → R W} {tgt : Value}
theorem calG_fn (F : FnG X.prog X.w X.K X.mg X.base k f fd ps m) (hr : Room k X.A) (hgd : X.A.guards = some []) (tk : Takes X Wx) (hb : KbG X.K fd ps ks np g gV gW) (kp : PySem.W.keepIn X.K (.ref f) = true) : CalG X Wx (.ref f) np ks (fun ws zs => m (gW ws zs)) :=
  ⟨fun I rv ry S rw rx q => run_kw F hr hgd tk hb I rv ry S rw rx q, kp⟩
/-- a class: the new instance, then __init__ -/
def mkM (C : Str) (m : List W → List W → MH → R W) : List W → List W → MH → R W := fun ws zs h => (m (.ref h.length :: ws) zs (h ++ [.ins C []])).bind fun r h2 => match r with
  | .non => .ok (.ref h.length) h2
  | _ => .stuck
theorem calG_mk (M : Mk X.K (He.ga X.K C) f) (F : FnG X.prog X.w X.K X.mg X.base k f fd ps m) (hr : Room (k + 1) X.A) (hgd : X.A.guards = some []) (tk : Takes X Wx) (hb : KbG X.K fd ps ks (np + 1) g gV gW) : CalG X Wx (.ref (He.ga X.K C)) np ks (mkM C fun ws zs => m (gW ws zs)) := by
  refine ⟨fun {pins σ b h s Q us zs vs ys ws xs} I rv ry S rw rx q => ?_, M.kp⟩
  by_cases hl : ws.length = np ∧ xs.length = ks.length
  case neg => rw [if_neg hl] at q; exact q.elim
  rw [if_pos hl] at q
  unfold mkM at q
  dsimp only at q
  have hx : b.H (s.heap.objs.size + 1) = none := I.hok.fresh (Nat.le_succ _)
  have hd : b.H s.heap.objs.size = none := I.hok.fresh (Nat.le_refl _)
  have I2 := Inv.made (C := He.ga X.K C) I
  obtain ⟨ex, S2, r0⟩ := S.made (C := C) hx hd (Nat.ne_of_lt (Nat.lt_succ_self _))
  have r1 : Vals (V.ref (s.heap.objs.size + 1) :: vs) (Value.ref (s.heap.objs.size + 1) :: us) := .cons rfl rv
  have r2 := hb.rel r1 ry
  have w1 := Rls.cons r0 (rw.ext ex)
  have w2 := hb.relW w1 (rx.ext ex)
  have n1 : (Value.ref (s.heap.objs.size + 1) :: us).length = np + 1 := by rw [List.length_cons, ← rv.length, ← rw.length, hl.1]
  have n2 : zs.length = ks.length := by rw [← ry.length, ← rx.length, hl.2]
  have hz : (g (Value.ref (s.heap.objs.size + 1) :: us) zs).length = ps.length := by
    rw [← r2.length, ← w2.length]
    refine Classical.byContradiction fun z => ?_
    rw [F.len _ _ z] at q
    exact q.elim
  have q2 := Post.bind (rel := Rl X.K) (q.ext ex)
  refine wpAny_call (make_map (f := f) I.kIn M.makes M.init (beq_iff_eq.mp M.fn) (codeAny_mono (F.run _ X.stack _ _ _ ⟨Value.ref (s.heap.objs.size + 1) :: us, ks.zip zs⟩ (g (Value.ref (s.heap.objs.size + 1) :: us) zs) _ _
    (fun v H3 => v = .non ∧ Q (.ref (s.heap.objs.size + 1)) H3) (fun c d H' => Wx c d σ H') (hr.make (He.ga X.K C) us (ks.zip zs)) hgd
    (I2.env0.make (He.ga X.K C) us (ks.zip zs)) (hb.to _ (Value.ref (s.heap.objs.size + 1) :: us) zs I2.kIn n1 n2 hz) r2 S2 w2 (q2.mono fun v H3 ⟨c, w, g', eH, E, S3, r3, q3⟩ => ?_)) fun r s' hq' => ?_))
  · subst eH
    cases r3 with
    | non => exact ⟨rfl, q3.here S3 (r0.ext E)⟩
    | _ => exact q3.elim
  · cases r with
    | error e => exact tk e s' (XE.of_call I2 (fun _ _ _ z => z) hq')
    | ok fl =>
      cases fl with
      | ret u =>
        obtain ⟨v, H', I3, rv3, ev, q3⟩ := I2.after hq'
        subst ev
        exact ⟨rv3, ⟨V.ref (s.heap.objs.size + 1), H', I3, rfl, q3⟩⟩
      | next => exact False.elim hq'
      | brk => exact False.elim hq'
      | cont => exact False.elim hq'
/-! ### the call of a global name -/
def eCal (np nk : Nat) (m : List W → List W → MH → R W) (n k : AM) : EM := fun σ h => (n σ h).bind fun ws h1 => (k σ h1).bind fun zs h2 => if ws.length = np ∧ zs.length = nk then m ws zs h2 else .stuck
theorem se_cal (c : CalG X Wx tgt np [] mm) (hg : Gl X x) (hm : X.mg x = some tgt) (ha : SA X Wx (e :: es) n)
    (hdb : (x == ("__debug__" : Str)) = false := by decide) (he : starEach (e :: es) X.env = (false, eval e X.env) :: starEach es X.env := by rfl) (hpl : (backTo pos (starEach es X.env)).any (·.1) = false := by rfl) :
    SE X Wx (.Call (.Name x p) (e :: es) [] pos) (eCal np 0 mm n aNil) := by
  refine ⟨⟨fun pins s σ H Q I q => ?_⟩⟩
  obtain ⟨b, h, σm, rfl, S, l, q⟩ := q
  refine wpAny_Call_Name_kw (ld_glob I hg hm ?_ hdb)
  refine PySem.W.callWith_K (h₀ := X.base) I.ok.mod.kin c.kp (thn (ha.run pos I S l (Post.bind q)) fun us s1 ⟨vs, H1, I1, r1, c1, ws, h1, e1, E1, S1, l1, q1⟩ => ?_) he hpl
  subst e1
  exact ⟨I1.kIn, c.run (zs := []) (ys := []) (xs := []) I1 r1 .nil S1 l1 .nil q1⟩
theorem se_cal0 (c : CalG X Wx tgt np [] mm) (hg : Gl X x) (hm : X.mg x = some tgt) (hdb : (x == ("__debug__" : Str)) = false := by decide) : SE X Wx (.Call (.Name x p) [] [] pos) (eCal np 0 mm aNil aNil) := by
  refine ⟨⟨fun pins s σ H Q I q => ?_⟩⟩
  obtain ⟨b, h, σm, rfl, S, l, q⟩ := q
  refine wpAny_Call_Name_kw (ld_glob I hg hm ?_ hdb)
  exact PySem.W.callWith_K0 I.kIn c.kp (c.run (us := []) (vs := []) (ws := []) (zs := []) (ys := []) (xs := []) I .nil .nil S .nil .nil q)
theorem se_calK (c : CalG X Wx tgt np ks mm) (hn : ks.length = kn) (hg : Gl X x) (hm : X.mg x = some tgt) (ha : SA X Wx (e :: es) n) (hkw : SK X Wx kws nk) (hall : (backToKw pos (keywordEach kws X.env)).all (·.1.isSome) = true := by rfl)
    (hks : (backToKw pos (keywordEach kws X.env)).filterMap (·.1) = ks := by rfl) (hdb : (x == ("__debug__" : Str)) = false := by decide) (he : starEach (e :: es) X.env = (false, eval e X.env) :: starEach es X.env := by rfl)
    (hpl : ((backTo pos (starEach (e :: es) X.env)).any (·.1) || (backToKw pos (keywordEach kws X.env)).any (·.1.isNone)) = false := by rfl) :
    SE X Wx (.Call (.Name x p) (e :: es) kws pos) (eCal np kn mm n nk) := by
  subst hn
  refine ⟨⟨fun pins s σ H Q I q => ?_⟩⟩
  obtain ⟨b, h, σm, rfl, S, l, q⟩ := q
  refine wpAny_Call_Name_kw (ld_glob I hg hm ?_ hdb)
  refine PySem.W.callWith_KW (h₀ := X.base) I.ok.mod.kin c.kp hall (thn (ha.run pos I S l (Post.bind q)) fun us s1 ⟨vs, H1, I1, r1, c1, ws, h1, e1, E1, S1, l1, q1⟩ => ?_) hpl he
  subst e1
  refine thn (hkw.pk.run pos pins s1 σ _ _ I1 ⟨c1, h1, σm, rfl, S1, l.ext E1, Post.bind q1⟩) fun zs s2 ⟨ys, H2, I2, r2, c2, xs, h2, e2, E2, S2, l2, q2⟩ => ?_
  subst e2
  refine ⟨I2.kIn, ?_⟩
  rw [hks]
  exact c.run I2 r1 r2 S2 (l1.ext E2) l2 q2
theorem se_calK0 (c : CalG X Wx tgt np ks mm) (hn : ks.length = kn) (hg : Gl X x) (hm : X.mg x = some tgt) (hkw : SK X Wx kws nk) (hall : (backToKw pos (keywordEach kws X.env)).all (·.1.isSome) = true := by rfl)
    (hks : (backToKw pos (keywordEach kws X.env)).filterMap (·.1) = ks := by rfl) (hdb : (x == ("__debug__" : Str)) = false := by decide)
    (hpl : ((backTo pos (starEach [] X.env)).any (·.1) || (backToKw pos (keywordEach kws X.env)).any (·.1.isNone)) = false := by rfl) :
    SE X Wx (.Call (.Name x p) [] kws pos) (eCal np kn mm aNil nk) := by
  subst hn
  refine ⟨⟨fun pins s σ H Q I q => ?_⟩⟩
  obtain ⟨b, h, σm, rfl, S, l, q⟩ := q
  refine wpAny_Call_Name_kw (ld_glob I hg hm ?_ hdb)
  refine PySem.W.callWith_KW0 (h₀ := X.base) I.ok.mod.kin c.kp hall ?_ hpl
  have q0 : Post X.K (Rls X.K) (fun c d H' => Wx c d σ H') b _ (nk σm h) := Post.bind (rel := Rls X.K) (k := fun zs h2 => if ([] : List W).length = np ∧ zs.length = ks.length then mm [] zs h2 else .stuck) q
  refine thn (hkw.pk.run pos pins s σ _ _ I ⟨b, h, σm, rfl, S, l, q0⟩) fun zs s2 ⟨ys, H2, I2, r2, c2, xs, h2, e2, E2, S2, l2, q2⟩ => ?_
  subst e2
  refine ⟨I2.kIn, ?_⟩
  rw [hks]
  exact c.run (us := []) (vs := []) (ws := []) I2 .nil r2 S2 .nil l2 q2
/-! ### methods -/
/-- o.m(..), an instance of the class C; the method's values: the instance first -/
def metG (C mn : Str) (x : W) (g : MH) (k : W → MH → R W) : R W := match insW g x with
  | some (C', fs) => if C' = C ∧ fldM fs mn = none then k x g else .stuck
  | none => .stuck
def eMet (C mn : Str) (np nk : Nat) (m : List W → List W → MH → R W) (mo : EM) (n k : AM) : EM := fun σ h => (mo σ h).bind fun x g => metG C mn x g fun y g => (n σ g).bind fun ws h1 => (k σ h1).bind fun zs h2 =>
  if (y :: ws).length = np ∧ zs.length = nk then m (y :: ws) zs h2 else .stuck
theorem met_cut {pins : List (Addr × Obj)} {σ : L2.St} {s : Shared} {c1 : Bs} {h1 : MH} {w : W} {x : V} {u : Value} {Q : VK} {k : W → MH → R W} {A : Around} {E : Value → Shared → Prop} {pl : Sem Bool} {R : Value × List Value → Shared → Prop}
    (c : Cls X.K (He.ga X.K C)) (hm : Meth X.K (He.ga X.K C) mn f) (I : Inv X pins σ c1.H s) (S1 : Sim X.K c1 h1) (rx : RelV x u) (r1 : Rl X.K c1 w x)
    (q : Post X.K (Rl X.K) (fun c d H' => Wx c d σ H') c1 Q (metG C mn w h1 k))
    (go : ∀ a, x = .ref a → u = .ref a → Rl X.K c1 w (.ref a) → Post X.K (Rl X.K) (fun c d H' => Wx c d σ H') c1 Q (k w h1) → R (.ref f, [.ref a]) s) :
    wpAny (model X.prog X.w) A (getMethod u mn pl) R E s := by
  unfold metG at q
  cases ei : insW h1 w with
  | none => rw [ei] at q; exact q.elim
  | some z =>
    obtain ⟨C', fs⟩ := z
    rw [ei] at q
    dsimp only at q
    by_cases hC : C' = C ∧ fldM fs mn = none
    case neg => rw [if_neg hC] at q; exact q.elim
    rw [if_pos hC] at q
    obtain ⟨rfl, hf⟩ := hC
    obtain ⟨a, dx, ps, rfl, h3, r3⟩ := S1.insW r1 ei
    obtain rfl : u = Value.ref a := rx
    exact getmeth_ok I h3 c hm (r3.lookup_none hf) (go a rfl rfl r1 q)
theorem se_met {pl : Sem Bool} (c : Cls X.K (He.ga X.K C)) (hm : Meth X.K (He.ga X.K C) mn f) (cg : CalG X Wx (.ref f) np [] mm) (ho : SE X Wx o mo) (ha : SA X Wx (e :: es) n)
    (he : starEach (e :: es) X.env = (false, eval e X.env) :: starEach es X.env := by rfl) (hpl : (backTo pos (starEach es X.env)).any (·.1) = false := by rfl)
    (ht : eval (.Call (.Attribute o mn apos) (e :: es) [] pos) X.env = (do
      let ov ← eval o X.env
      standAt apos.atName
      let (f, first) ← holding [ov] (getMethod ov mn pl)
      callWith pos f first (backTo pos (starEach (e :: es) X.env)) (backToKw pos (keywordEach [] X.env))) := by rfl) : SE X Wx (.Call (.Attribute o mn apos) (e :: es) [] pos) (eMet C mn np 0 mm mo n aNil) := by
  refine ⟨⟨fun pins s σ H Q I q => ?_⟩⟩
  obtain ⟨b, h, σm, rfl, S, l, q⟩ := q
  refine PySem.W.methodCall_KW (pl := pl) (thn (ho.pe.run pins s σ _ _ I ⟨b, h, σm, rfl, S, l, Post.bind (rel := Rl X.K) q⟩) fun u s0 ⟨x, H0, I0, rx, c0, w, g, e0, E0, S0, r0, q0⟩ => ?_) ht
  subst e0
  refine met_cut (Wx := Wx) c hm I0 S0 rx r0 q0 fun ad _ _ ri qi => ?_
  refine PySem.W.callWith_K (first := [.ref ad]) (h₀ := X.base) I0.ok.mod.kin hm.kp (thn (ha.run pos I0 S0 (l.ext E0) (Post.bind qi)) fun us s1 ⟨vs, H1, I1, r1, c1, ws, h1, e1, E1, S1, l1, q1⟩ => ?_) he hpl
  subst e1
  exact ⟨I1.kIn, cg.run (us := .ref ad :: us) (vs := .ref ad :: vs) (ws := w :: ws) (zs := []) (ys := []) (xs := []) I1 (.cons rfl r1) .nil S1 (.cons (ri.ext E1) l1) .nil q1⟩
theorem se_met0 {pl : Sem Bool} (c : Cls X.K (He.ga X.K C)) (hm : Meth X.K (He.ga X.K C) mn f) (cg : CalG X Wx (.ref f) np [] mm) (ho : SE X Wx o mo)
    (ht : eval (.Call (.Attribute o mn apos) [] [] pos) X.env = (do
      let ov ← eval o X.env
      standAt apos.atName
      let (f, first) ← holding [ov] (getMethod ov mn pl)
      callWith pos f first (backTo pos (starEach [] X.env)) (backToKw pos (keywordEach [] X.env))) := by rfl) : SE X Wx (.Call (.Attribute o mn apos) [] [] pos) (eMet C mn np 0 mm mo aNil aNil) := by
  refine ⟨⟨fun pins s σ H Q I q => ?_⟩⟩
  obtain ⟨b, h, σm, rfl, S, l, q⟩ := q
  refine PySem.W.methodCall_KW (pl := pl) (thn (ho.pe.run pins s σ _ _ I ⟨b, h, σm, rfl, S, l, Post.bind (rel := Rl X.K) q⟩) fun u s0 ⟨x, H0, I0, rx, c0, w, g, e0, E0, S0, r0, q0⟩ => ?_) ht
  subst e0
  refine met_cut (Wx := Wx) c hm I0 S0 rx r0 q0 fun ad _ _ ri qi => ?_
  exact PySem.W.callWith_K0 (first := [.ref ad]) I0.kIn hm.kp (cg.run (us := [.ref ad]) (vs := [.ref ad]) (ws := [w]) (zs := []) (ys := []) (xs := []) I0 (.cons rfl .nil) .nil S0 (.cons ri .nil) .nil qi)
theorem se_metK {pl : Sem Bool} (c : Cls X.K (He.ga X.K C)) (hm : Meth X.K (He.ga X.K C) mn f) (cg : CalG X Wx (.ref f) np ks mm) (hn : ks.length = kn) (ho : SE X Wx o mo) (ha : SA X Wx (e :: es) n) (hkw : SK X Wx kws nk)
    (hall : (backToKw pos (keywordEach kws X.env)).all (·.1.isSome) = true := by rfl) (hks : (backToKw pos (keywordEach kws X.env)).filterMap (·.1) = ks := by rfl)
    (he : starEach (e :: es) X.env = (false, eval e X.env) :: starEach es X.env := by rfl) (hpl : ((backTo pos (starEach (e :: es) X.env)).any (·.1) || (backToKw pos (keywordEach kws X.env)).any (·.1.isNone)) = false := by rfl)
    (ht : eval (.Call (.Attribute o mn apos) (e :: es) kws pos) X.env = (do
      let ov ← eval o X.env
      standAt apos.atName
      let (f, first) ← holding [ov] (getMethod ov mn pl)
      callWith pos f first (backTo pos (starEach (e :: es) X.env)) (backToKw pos (keywordEach kws X.env))) := by rfl) : SE X Wx (.Call (.Attribute o mn apos) (e :: es) kws pos) (eMet C mn np kn mm mo n nk) := by
  subst hn
  refine ⟨⟨fun pins s σ H Q I q => ?_⟩⟩
  obtain ⟨b, h, σm, rfl, S, l, q⟩ := q
  refine PySem.W.methodCall_KW (pl := pl) (thn (ho.pe.run pins s σ _ _ I ⟨b, h, σm, rfl, S, l, Post.bind (rel := Rl X.K) q⟩) fun u s0 ⟨x, H0, I0, rx, c0, w, g, e0, E0, S0, r0, q0⟩ => ?_) ht
  subst e0
  refine met_cut (Wx := Wx) c hm I0 S0 rx r0 q0 fun ad _ _ ri qi => ?_
  refine PySem.W.callWith_KW (first := [.ref ad]) (h₀ := X.base) I0.ok.mod.kin hm.kp hall (thn (ha.run pos I0 S0 (l.ext E0) (Post.bind qi)) fun us s1 ⟨vs, H1, I1, r1, c1, ws, h1, e1, E1, S1, l1, q1⟩ => ?_) hpl he
  subst e1
  refine thn (hkw.pk.run pos pins s1 σ _ _ I1 ⟨c1, h1, σm, rfl, S1, (l.ext E0).ext E1, Post.bind q1⟩) fun zs s2 ⟨ys, H2, I2, r2, c2, xs, h2, e2, E2, S2, l2, q2⟩ => ?_
  subst e2
  refine ⟨I2.kIn, ?_⟩
  rw [hks]
  exact cg.run (us := .ref ad :: us) (vs := .ref ad :: vs) (ws := w :: ws) I2 (.cons rfl r1) r2 S2 (.cons ((ri.ext E1).ext E2) (l1.ext E2)) l2 q2
theorem se_metK0 {pl : Sem Bool} (c : Cls X.K (He.ga X.K C)) (hm : Meth X.K (He.ga X.K C) mn f) (cg : CalG X Wx (.ref f) np ks mm) (hn : ks.length = kn) (ho : SE X Wx o mo) (hkw : SK X Wx kws nk)
    (hall : (backToKw pos (keywordEach kws X.env)).all (·.1.isSome) = true := by rfl) (hks : (backToKw pos (keywordEach kws X.env)).filterMap (·.1) = ks := by rfl)
    (hpl : ((backTo pos (starEach [] X.env)).any (·.1) || (backToKw pos (keywordEach kws X.env)).any (·.1.isNone)) = false := by rfl)
    (ht : eval (.Call (.Attribute o mn apos) [] kws pos) X.env = (do
      let ov ← eval o X.env
      standAt apos.atName
      let (f, first) ← holding [ov] (getMethod ov mn pl)
      callWith pos f first (backTo pos (starEach [] X.env)) (backToKw pos (keywordEach kws X.env))) := by rfl) : SE X Wx (.Call (.Attribute o mn apos) [] kws pos) (eMet C mn np kn mm mo aNil nk) := by
  subst hn
  refine ⟨⟨fun pins s σ H Q I q => ?_⟩⟩
  obtain ⟨b, h, σm, rfl, S, l, q⟩ := q
  refine PySem.W.methodCall_KW (pl := pl) (thn (ho.pe.run pins s σ _ _ I ⟨b, h, σm, rfl, S, l, Post.bind (rel := Rl X.K) q⟩) fun u s0 ⟨x, H0, I0, rx, c0, w, g, e0, E0, S0, r0, q0⟩ => ?_) ht
  subst e0
  refine met_cut (Wx := Wx) c hm I0 S0 rx r0 q0 fun ad _ _ ri qi => ?_
  refine PySem.W.callWith_KW0 (first := [.ref ad]) (h₀ := X.base) I0.ok.mod.kin hm.kp hall ?_ hpl
  have q1 : Post X.K (Rls X.K) (fun c d H' => Wx c d σ H') c0 _ (nk σm g) := Post.bind (rel := Rls X.K) (k := fun zs h2 => if ([w] : List W).length = np ∧ zs.length = ks.length then mm [w] zs h2 else .stuck) qi
  refine thn (hkw.pk.run pos pins s0 σ _ _ I0 ⟨c0, g, σm, rfl, S0, l.ext E0, q1⟩) fun zs s2 ⟨ys, H2, I2, r2, c2, xs, h2, e2, E2, S2, l2, q2⟩ => ?_
  subst e2
  refine ⟨I2.kIn, ?_⟩
  rw [hks]
  exact cg.run (us := [.ref ad]) (vs := [.ref ad]) (ws := [w]) I2 (.cons rfl .nil) r2 S2 (.cons (ri.ext E2) .nil) l2 q2
end
end PM
/-! Sm17: own classes: properties, ==, !=, in, len. -/
noncomputable section
namespace PM
open PySem PySem.Spec L2
open PyProof.Rows hiding St
section
variable {X : Cx} {Wx : WX} {k : Nat} {f : Addr} {fd : FuncData} {ps ks : List Str} {m : FM} {C : Str} {np : Nat} {g : List Value → List Value → List Value} {gV : List V → List V → List V} {gW : List W → List W → List W} {mm : List W → List W → MH → R W}
/-- the def at f, called with values only, here or one deeper -/
structure CalM (X : Cx) (Wx : WX) (f : Addr) (np : Nat) (m : List W → MH → R W) : Prop where
  here : ∀ {pins : List (Addr × Obj)} {σ : L2.St} {b : Bs} {h : MH} {s : Shared} {Q : VK} {us : List Value} {vs : List V} {ws : List W},
    Inv X pins σ b.H s → Vals vs us → Sim X.K b h → Rls X.K b ws vs → ws.length = np → Post X.K (Rl X.K) (fun c d H' => Wx c d σ H') b Q (m ws h) → wpAny (model X.prog X.w) X.A (call (.ref f) us) (EP X pins σ Q) X.xe s
  in1 : ∀ {pins : List (Addr × Obj)} {σ : L2.St} {b : Bs} {h : MH} {s : Shared} {Q : VK} {us : List Value} {vs : List V} {ws : List W},
    Inv X pins σ b.H s → Vals vs us → Sim X.K b h → Rls X.K b ws vs → ws.length = np → Post X.K (Rl X.K) (fun c d H' => Wx c d σ H') b Q (m ws h) → wpAny (model X.prog X.w) X.A.in1 (call (.ref f) us) (EP X pins σ Q) X.xe s
theorem calM_fn (F : FnG X.prog X.w X.K X.mg X.base k f fd ps m) (hr : Room (k + 1) X.A) (hgd : X.A.guards = some []) (tk : Takes X Wx) (hb : KbG X.K fd ps [] np g gV gW) : CalM X Wx f np (fun ws => m (gW ws [])) := by
  have core : ∀ (A : Around) (hr : Room k A) (hgd : A.guards = some []) {pins : List (Addr × Obj)} {σ : L2.St} {b : Bs} {h : MH} {s : Shared} {Q : VK} {us : List Value} {vs : List V} {ws : List W} (e0 : Env0 X.prog X.w X.K X.mg X.base A X.stack s b.H),
      Inv X pins σ b.H s → Vals vs us → Sim X.K b h → Rls X.K b ws vs → ws.length = np → Post X.K (Rl X.K) (fun c d H' => Wx c d σ H') b Q (m (gW ws []) h) → wpAny (model X.prog X.w) A (call (.ref f) us) (EP X pins σ Q) X.xe s := by
    intro A hr hgd pins σ b h s Q us vs ws e0 I rv S rw hl q
    have r2 := hb.rel rv (zs := []) (ws := []) .nil
    have w2 := hb.relW rw (ws := []) (zs := []) .nil
    have hz : (g us []).length = ps.length := by
      rw [← r2.length, ← w2.length]
      refine Classical.byContradiction fun z => ?_
      rw [F.len _ _ z] at q
      exact q.elim
    refine callAny_of (codeAny_mono (F.run A X.stack s b h ⟨us, []⟩ _ _ _ Q (fun c d H' => Wx c d σ H') hr hgd e0 (hb.to s us [] I.kIn (by rw [← rv.length, ← rw.length]; exact hl) rfl hz) r2 S w2 q) fun r s' hq => ?_)
    cases r with
    | error e => exact tk e s' (XE.of_call I (fun _ _ _ z => z) hq)
    | ok fl => cases fl with
      | ret u => exact I.after hq
      | next => exact hq
      | brk => exact hq
      | cont => exact hq
  exact ⟨fun I rv S rw hl q => core X.A (hr.mono (Nat.le_succ _)) hgd I.env0 I rv S rw hl q, fun I rv S rw hl q => core X.A.in1 hr.in1 hgd I.env0.in1 I rv S rw hl q⟩
/-! ### properties -/
def eProp (C : Str) (m : List W → MH → R W) (mo : EM) : EM := fun σ h => (mo σ h).bind fun x g => match insW g x with
  | some (C', _) => if C' = C then (m [x] g).nox else .stuck
  | none => .stuck
theorem nox_post {α β : Type} {K : PySem.W.Frag} {rel : Bs → α → β → Prop} {We We' : Value → Option Addr → Hp → Prop} {b : Bs} {Q : β → Hp → Prop} {r : R α} (q : Post K rel We b Q r.nox) : Post K rel We' b Q r := by
  cases r with
  | ok a h => exact q
  | exc x h => exact q.elim
  | stuck => exact q.elim
theorem se_prop {p fp : Addr} {f : Str} {e : Expr} {me : EM} {pos : Pos} (c : Cls X.K (He.ga X.K C)) (hp : PropOf X.K (He.ga X.K C) f p fp) (F : FnG X.prog X.w X.K X.mg X.base k fp fd ps m) (hr : Room (k + 1) X.A) (hgd : X.A.guards = some []) (hb : KbG X.K fd ps [] 1 g gV gW)
    (he : SE X Wx e me) (hab : attributeBase e f X.env (eval e X.env) = eval e X.env := by rfl) : SE X Wx (.Attribute e f pos) (eProp C (fun ws => m (gW ws [])) me) := by
  refine ⟨⟨fun pins s σ H Q I q => ?_⟩⟩
  obtain ⟨b, h, σm, rfl, S, l, q⟩ := q
  refine attr_of hab (thn (he.pe.run pins s σ _ _ I ⟨b, h, σm, rfl, S, l, Post.bind (rel := Rl X.K) q⟩) fun u s1 ⟨x, H1, I1, rx, c1, w, h1, e1, E1, S1, r1, q1⟩ => ?_)
  subst e1
  cases ei : insW h1 w with
  | none => rw [ei] at q1; exact q1.elim
  | some z =>
    obtain ⟨C', fs⟩ := z
    rw [ei] at q1
    dsimp only at q1
    by_cases hC : C' = C
    case neg => rw [if_neg hC] at q1; exact q1.elim
    rw [if_pos hC] at q1
    subst hC
    obtain ⟨ad, dx, qs, rfl, h3, r3⟩ := S1.insW r1 ei
    obtain rfl : u = Value.ref ad := rx
    have I2 := I1.tok (s1.toks + 1)
    obtain ⟨mA, O, _, _, _, _⟩ := ins_get I1.hok h3
    obtain ⟨od, J, _⟩ := O.look
    obtain ⟨rest, hrec⟩ := hp.rec_
    have hc : (PySem.W.clsIn X.K (He.ga X.K C')).isSome = true := by
      obtain ⟨cd, hc, _⟩ := PySem.W.any_some c.hd
      rw [hc]; rfl
    have q2 : Post X.K (Rl X.K) (fun _ _ _ => False) c1 Q (m (gW [w] []) h1) := nox_post q1
    have w2 := hb.relW (us := [w]) (vs := [.ref ad]) (ws := []) (zs := []) (b := c1) (.cons r1 .nil) .nil
    have r2 := hb.rel (vs := [.ref ad]) (us := [.ref ad]) (zs := []) (ws := []) (.cons rfl .nil) .nil
    have hz : (g [.ref ad] []).length = ps.length := by
      rw [← r2.length, ← w2.length]
      refine Classical.byContradiction fun z => ?_
      rw [F.len _ _ z] at q2
      exact q2.elim
    refine PySem.W.get_bind I1.kIn J (PySem.W.plainGet_of (c.get f)).1 (PySem.W.findObj_data hc hp.at_ hp.get hp.tak) (PySem.W.plainGet_of (c.get f)).2 (wpAny_call (PySem.W.prop_get (s := { s1 with toks := s1.toks + 1 }) I1.kIn hrec ?_))
    refine codeAny_mono (F.run X.A.in1 X.stack { s1 with toks := s1.toks + 1 } c1 h1 ⟨[.ref ad], []⟩ _ _ _ Q (fun _ _ _ => False) hr.in1 hgd I2.env0.in1 (hb.to _ [.ref ad] [] I2.kIn rfl rfl hz) r2 S1 w2 q2) fun r s' hq => ?_
    cases r with
    | error er =>
      obtain ⟨_, _, _, _, _, _, _, _, _, _, _, _, hE⟩ := hq
      exact hE.elim
    | ok fl =>
      cases fl with
      | ret u =>
        obtain ⟨v, H', I3, rv, q3⟩ := I2.after hq
        show wpAny _ _ (handedOut u) _ _ _
        rw [PySem.W.handedOut_of (handed_of rv)]
        exact wpAny_pure ⟨v, H', I3, rv, q3⟩
      | next => exact False.elim hq
      | brk => exact False.elim hq
      | cont => exact False.elim hq

end
end PM
/-! Sm18: own classes in isinstance, ==, !=, in, len, [], |. -/
noncomputable section
namespace PM
open PySem PySem.Spec L2
open PyProof.Rows hiding St
def Kd.inC (t : Kd) (cs : List Str) : Bool := match t with
  | .own C => decide (C ∈ cs)
  | .ty _ => true
theorem Kd.inC_ok {t : Kd} {cs : List Str} (h : t.inC cs = true) : ∀ C, t = .own C → C ∈ cs := by
  rintro C rfl
  exact of_decide_eq_true h
def kdW (w : W) (h : MH) : Option Kd := match insW h w with
  | some (C, _) => some (.own C)
  | none => (tyB w h).map .ty
/-- what of the text a class must have -/
structure OwnC (K : PySem.W.Frag) (C : Str) : Prop where
  cls : Cls K (He.ga K C)
  ha : PySem.W.findIn K (.ref (He.ga K C)) "__class__" = some (some (.builtin "object.__class__"))
  hm : PySem.W.mroIn K (He.ga K C) (.type "object") = some true
  hn : PySem.W.specialIn K (.builtin "object.__class__") "__get__" = some (some (.builtin "getset_descriptor.__get__"))
  ht : PySem.W.takesIn K (.builtin "object.__class__") = some true
theorem ownCB_ok {K : PySem.W.Frag} {C : Str} (h : ownCB K C = true) : OwnC K C := by
  unfold ownCB at h
  simp only [Bool.and_eq_true, decide_eq_true_eq] at h
  obtain ⟨h1, h2, h3, h4, h5⟩ := h
  exact ⟨He.cls_ok h1, He.eqO_ok h2, h3, He.eqO_ok h4, h5⟩
section
variable {X : Cx} {Wx : WX} {K : PySem.W.Frag} {b : Bs} {h : MH} {w : W} {v : V} {t : Kd} {cs : List Str}
theorem tyX_kd (hc : ∀ C ∈ cs, OwnC K C) (S : Sim K b h) (r : Rl K b w v) (e : kdW w h = some t) (hin : ∀ C, t = .own C → C ∈ cs) : TyX K b.H v (t.v K) := by
  have flat : (tyB w h).map Kd.ty = some t → TyX K b.H v (t.v K) := fun e => by
    obtain ⟨n, e1, rfl⟩ := Option.map_eq_some_iff.mp e
    exact tyX_of S r e1
  unfold kdW at e
  cases ei : insW h w with
  | none => rw [ei] at e; exact flat e
  | some z =>
    obtain ⟨C, fs⟩ := z
    rw [ei] at e
    cases e
    have o := hc C (hin C rfl)
    obtain ⟨a, dx, ps, rfl, h3, _⟩ := S.insW r ei
    exact .base (.ins h3 o.cls o.ha o.hn o.ht o.hm)
/-! ### isinstance -/
def cdW : W → Option Kd
  | .ty n => some (.ty n)
  | .glo C => some (.own C)
  | _ => none
def isT (tb : IsT) (t c : Kd) : Option Bool := match t, c with
  | .ty a, .ty b => isB a b
  | _, _ => (tb.find? fun e => decide (e.1 = t ∧ e.2.1 = c)).map (·.2.2)
def TbOk (K : PySem.W.Frag) (tb : IsT) : Prop := ∀ e ∈ tb, PySem.W.kitOne K (e.1.v K) (e.2.1.v K) = some e.2.2
theorem tbB_ok {tb : IsT} (h : tbB K tb = true) : TbOk K tb := fun e he => of_decide_eq_true (List.all_eq_true.mp h e he)
theorem isT_ok {tb : IsT} {t c : Kd} {r : Bool} (hT : TbOk K tb) (e : isT tb t c = some r) : PySem.W.kitOne K (t.v K) (c.v K) = some r := by
  have tab : (tb.find? fun e => decide (e.1 = t ∧ e.2.1 = c)).map (·.2.2) = some r → PySem.W.kitOne K (t.v K) (c.v K) = some r := fun e => by
    obtain ⟨z, e1, e2⟩ := Option.map_eq_some_iff.mp e
    have h1 := List.find?_some e1
    have h2 := List.mem_of_find?_eq_some e1
    obtain ⟨h3, h4⟩ := of_decide_eq_true h1
    rw [← h3, ← h4, ← e2]
    exact hT z h2
  unfold isT at e
  split at e
  · exact isB_ok e
  · exact tab e
/-- isinstance(x, c), c a class of any kind -/
def bIsO (cs : List Str) (tb : IsT) (ws : List W) (h : MH) : R W := match ws with
  | [w, .tup l] => bIsi [w, .tup l] h
  | [w, c] => match kdW w h, cdW c with
    | some t, some c => if t.inC cs = true then match isT tb t c with
      | some r => .ok (.bl r) h
      | none => .stuck else .stuck
    | _, _ => .stuck
  | _ => .stuck
theorem cs_isO {cs : List Str} {tb : IsT} (hc : ∀ C ∈ cs, OwnC X.K C) (hT : TbOk X.K tb) : CallS X Wx (.builtin "isinstance") (bIsO cs tb) := ⟨fun pins s σ b h ws vs us Q I S r rv q => by
  unfold bIsO at q
  split at q
  · exact cs_isi.run pins s σ b h _ vs us Q I S r rv q
  · rename_i w c _
    obtain ⟨v, y, rfl, r1, r2⟩ := rls2 r
    split at q
    · rename_i t d et ed
      by_cases hi : t.inC cs = true
      case neg => rw [if_neg hi] at q; exact q.elim
      rw [if_pos hi] at q
      split at q
      · rename_i k hk
        have ty := tyX_kd hc S r1 et (Kd.inC_ok hi)
        have kk := isT_ok hT hk
        have cv : ClsV y (d.v X.K) := by
          cases r2 with
          | ty n => cases ed; exact .ty n
          | glo C => cases ed; exact .own _
          | _ => cases ed
        exact call_isi pins s σ b.H _ us Q I rv ⟨v, y, t.v X.K, d.v X.K, k, rfl, cv, ty, kk, q.here S (.bl _)⟩
      · exact q.elim
    · exact q.elim
  · exact q.elim⟩
/-- a class's name -/
theorem se_cls {x : Str} {pos : Pos} (hg : Gl X x) (hm : X.mg x = some (.ref (He.ga X.K x))) (hd : (x == ("__debug__" : Str)) = false := by decide) : SE X Wx (.Name x pos) (eC (.glo x)) :=
  se_glob (v := .ref (He.ga X.K x)) hg hm rfl (fun _ => .glo x) hd
/-! ### == and != -/
theorem typ_of {pins : List (Addr × Obj)} {σ : L2.St} {H : Hp} {s : Shared} {x : V} {u t : Value} {M : Model} (I : Inv X pins σ H s) (rx : RelV x u) (ty : TyX X.K H x t) : PySem.W.Looks M s.heap (typeOf u) t := by
  obtain ⟨P, Z, p, _⟩ := kit_of I rx ty
  exact Z.ty M s.heap I.kIn p
/-- nf: the kinds of right hands that are asked second -/
def bEqI (C : Str) (cs : List Str) (nf : List Kd) (m : List W → MH → R W) : W → W → MH → R W := fun x y h => match insW h x, kdW y h with
  | some (C', _), some t => if C' = C ∧ t ∈ nf ∧ t.inC cs = true then m [x, y] h else .stuck
  | _, _ => .stuck
end
section
variable {X : Cx} {Wx : WX} {f : Addr} {C : Str} {cs : List Str} {nf : List Kd} {m : List W → MH → R W}
theorem os_eqI {k : Nat} (hr : Room k X.A) (hc : ∀ C ∈ cs, OwnC X.K C) (hn : ∀ t ∈ nf, PySem.W.notFirst X.K (He.ga X.K C) (t.v X.K) = true) (cm : CalM X Wx f 2 m)
    (hs : PySem.W.findIn X.K (.ref (He.ga X.K C)) "__eq__" = some (some (.ref f))) (hf : PySem.W.isFn X.K (.ref f) = true) : OpS X Wx (compareOp .Eq) (bEqI C cs nf m) := ⟨fun pins s σ b h x y x' y' v u Q I S r1 r2 rv ru q => by
  unfold bEqI at q
  split at q
  · rename_i C' fs t ei et
    by_cases hC : C' = C ∧ t ∈ nf ∧ t.inC cs = true
    case neg => rw [if_neg hC] at q; exact q.elim
    rw [if_pos hC] at q
    obtain ⟨rfl, h1, h2⟩ := hC
    obtain ⟨ad, dx, ps, rfl, h3, _⟩ := S.insW r1 ei
    obtain ⟨mA, O, _⟩ := ins_get I.hok h3
    obtain ⟨od, J, _⟩ := O.look
    obtain ⟨mm, hF⟩ := I.fr
    cases rv
    show wpAny _ _ (richCompare .Eq (.ref ad) u) _ _ _
    refine PySem.W.cmp_K (op := .Eq) hr.units0 hF I.ok.mod.kin J (typ_of I ru (tyX_kd hc S r2 et (Kd.inC_ok h2))) (hn t h1) hs hf ?_
    refine wpAny_mono (cm.here (us := [.ref ad, u]) (vs := [.ref ad, y']) I (.cons rfl (.cons ru .nil)) S (.cons r1 (.cons r2 .nil)) rfl q) (fun w s' hq => ?_) fun _ _ z => z
    obtain ⟨z, H', I', rz, q'⟩ := id hq
    cases z <;> first | (obtain ⟨_, rz⟩ := rz; subst rz; exact hq) | (cases rz; exact hq)
  · exact q.elim⟩
theorem F_ne : PySem.Slot "object" "__ne__" "object.__ne__" := PySem.F.cmp_object.ne
open Builtin in
theorem ne_K {prog : Program} {w : World} {A : Around} {E : Value → Shared → Prop} {s : Shared} {K : PySem.W.Frag} {x C f : Addr} {ox : Obj} {od : Option Obj} {b tb : Value} {Q : Value → Shared → Prop} (hu : A.units + 1 < cLine) (X : K.In s.heap) (I : PySem.W.InstAt s.heap x ox C od)
    (hb : PySem.W.Looks (model prog w) s.heap (typeOf b) tb) (hn : PySem.W.notFirst K C tb = true) (hne : PySem.W.findIn K (.ref C) "__ne__" = some (some (.builtin "object.__ne__"))) (hm : PySem.W.mroIn K C (.type "object") = some true)
    (hs : PySem.W.findIn K (.ref C) "__eq__" = some (some (.ref f))) (hf : PySem.W.isFn K (.ref f) = true)
    (h : wpAny (model prog w) A.in1 (call (.ref f) [.ref x, b]) (fun v s' => ∃ k, v = .bool k ∧ Q (.bool (!k)) s') E s) : wpAny (model prog w) A (richCompare .NotEq (.ref x) b) Q E s := by
  have obj : wpAny (model prog w) A.in1 (Builtin.«object.__ne__» ⟨[.ref x, b], []⟩) (fun r s' => ∃ v, r = .done (.ret v) ∧ (∃ k, v = .bool k) ∧ Q v s') E s := by
    unfold Builtin.«object.__ne__»
    refine wpAny_bind (m := slotArgs "__ne__" 1 _) (wpAny_pure ?_)
    refine wpAny_bind (wpAny_cRoomFor (by show A.units + 1 < cLine; exact hu) ?_)
    refine wpAny_bind (m := callSpecialIfBound? (.ref x) (Str.ofString "__eq__") _) (PySem.W.ifBound_K X I hs hf (wpAny_mono h (fun v s' hv => ?_) fun _ _ z => z))
    obtain ⟨k, rfl, q⟩ := hv
    refine wpAny_bind (m := truthy (.bool k)) (wpAny_truthy_bool ?_)
    exact wpAny_pure ⟨_, rfl, ⟨_, rfl⟩, q⟩
  have one : wpAny (model prog w) A (tryCompare (.ref x) "__ne__" b) (fun r s' => ∃ v, r = some v ∧ Q v s') E s := by
    unfold tryCompare
    have cl : wpAny (model prog w) A (call (.builtin "object.__ne__") [.ref x, b]) (fun v s' => (∃ k, v = .bool k) ∧ Q v s') E s :=
      wpAny_call (codeAny_call_builtin F_ne.plain PySem.F.cmpEntry_ne (PySem.W.check_slot (i := "object.__ne__") (owner := "object") (n := "__ne__") PySem.F.cmpKind_ne PySem.F.cmpSplit_ne (I.type.andThen (PySem.W.looks_mroIn X hm)) (PySem.F.cmpArgs_ne _ _)
        (wpAny_mono obj (fun r s' ⟨v, e1, e2, q⟩ => by subst e1; exact ⟨e2, q⟩) fun _ _ z => z)))
    refine wpAny_bind (m := callSpecialIfBound? (.ref x) (Str.ofString "__ne__") _) (wpAny_mono (Q := fun r s' => ∃ v, r = some v ∧ (∃ k, v = .bool k) ∧ Q v s') ?_ (fun r s' ⟨v, e1, ⟨k, e2⟩, q⟩ => by
      subst e1 e2
      exact wpAny_pure ⟨_, rfl, q⟩) fun _ _ z => z)
    simp only [callSpecialIfBound?, bindSpecialIfBound?]
    refine wpAny_holding (wpAny_bind (wpAny_bind (wpAny_bind (I.type.here ((PySem.W.looks_findIn X hne).here ?_)))))
    simp only [F_ne.bind]
    refine wpAny_bind (wpAny_askSetting (wpAny_ite ?_))
    have fin : wpAny (model prog w) A (call (.builtin "object.__ne__") ([.ref x] ++ [b]) >>= fun v => pure (some v)) (fun r s' => ∃ v, r = some v ∧ (∃ k, v = .bool k) ∧ Q v s') E s := wpAny_bind (wpAny_mono cl (fun v s' q => wpAny_pure ⟨v, rfl, q⟩) fun _ _ z => z)
    split
    · exact wpAny_bind (wpAny_pure (wpAny_pure fin))
    · exact wpAny_tryCatch (wpAny_bind (wpAny_pure (wpAny_pure fin)))
  unfold richCompare
  simp only [oneThing_ref]
  refine wpAny_holding (wpAny_bind (wpAny_cRoomFor (Nat.lt_of_succ_lt hu) ?_))
  refine wpAny_bind (I.type.here (wpAny_bind (hb.here ?_)))
  split
  · rename_i q
    have e : PySem.W.subIn K tb (.ref C) = some false := by
      rcases Bool.or_eq_true_iff.mp hn with e | e
      · rw [beq_iff_eq.mp e] at q; simp at q
      · exact beq_iff_eq.mp e
    refine wpAny_bind ((PySem.W.looks_subIn X e).here ?_)
    simp only [Bool.false_eq_true, if_false]
    refine wpAny_bind (wpAny_mono one (fun r s' z => ?_) fun _ _ e => e)
    obtain ⟨v, rfl, hq⟩ := z
    exact wpAny_pure hq
  · refine wpAny_bind (wpAny_pure ?_)
    simp only [Bool.false_eq_true, if_false]
    refine wpAny_bind (wpAny_mono one (fun r s' z => ?_) fun _ _ e => e)
    obtain ⟨v, rfl, hq⟩ := z
    exact wpAny_pure hq
def bNeI (C : Str) (cs : List Str) (nf : List Kd) (m : List W → MH → R W) : W → W → MH → R W := fun x y h => match insW h x, kdW y h with
  | some (C', _), some t => if C' = C ∧ t ∈ nf ∧ t.inC cs = true then (m [x, y] h).bind fun r h1 => match r with
    | .bl k => .ok (.bl (!k)) h1
    | _ => .stuck else .stuck
  | _, _ => .stuck
theorem os_neI {k : Nat} (hr : Room k X.A) (hc : ∀ C ∈ cs, OwnC X.K C) (hn : ∀ t ∈ nf, PySem.W.notFirst X.K (He.ga X.K C) (t.v X.K) = true) (cm : CalM X Wx f 2 m) (hne : PySem.W.findIn X.K (.ref (He.ga X.K C)) "__ne__" = some (some (.builtin "object.__ne__")))
    (hm : PySem.W.mroIn X.K (He.ga X.K C) (.type "object") = some true) (hs : PySem.W.findIn X.K (.ref (He.ga X.K C)) "__eq__" = some (some (.ref f))) (hf : PySem.W.isFn X.K (.ref f) = true) : OpS X Wx (compareOp .NotEq) (bNeI C cs nf m) := ⟨fun pins s σ b h x y x' y' v u Q I S r1 r2 rv ru q => by
  unfold bNeI at q
  split at q
  · rename_i C' fs t ei et
    by_cases hC : C' = C ∧ t ∈ nf ∧ t.inC cs = true
    case neg => rw [if_neg hC] at q; exact q.elim
    rw [if_pos hC] at q
    obtain ⟨rfl, h1, h2⟩ := hC
    obtain ⟨ad, dx, ps, rfl, h3, _⟩ := S.insW r1 ei
    obtain ⟨mA, O, _⟩ := ins_get I.hok h3
    obtain ⟨od, J, _⟩ := O.look
    cases rv
    show wpAny _ _ (richCompare .NotEq (.ref ad) u) _ _ _
    refine ne_K (by have := hr.units; omega) I.kIn J (typ_of I ru (tyX_kd hc S r2 et (Kd.inC_ok h2))) (hn t h1) hne hm hs hf ?_
    refine wpAny_mono (cm.in1 (us := [.ref ad, u]) (vs := [.ref ad, y']) I (.cons rfl (.cons ru .nil)) S (.cons r1 (.cons r2 .nil)) rfl (Post.bind (rel := Rl X.K) q)) (fun w s' hq => ?_) fun _ _ z => z
    obtain ⟨z, H', I', rz, c1, wz, h1, eH, E1, S1, rw, q'⟩ := hq
    subst eH
    cases rw with
    | bl k =>
      cases rz
      exact ⟨k, rfl, .bl (!k), _, I', rfl, q'.here S1 (.bl _)⟩
    | _ => exact q'.elim
  · exact q.elim⟩
/-- x in y, y an instance with its own __contains__ -/
def bInI (C : Str) (neg : Bool) (m : List W → MH → R W) : W → W → MH → R W := fun x y h => match insW h y with
  | some (C', _) => if C' = C then (m [y, x] h).bind fun r h1 => match r with
    | .bl k => .ok (.bl (if neg then !k else k)) h1
    | _ => .stuck else .stuck
  | none => .stuck
theorem os_inI (cm : CalM X Wx f 2 m) (hs : PySem.W.findIn X.K (.ref (He.ga X.K C)) "__contains__" = some (some (.ref f))) (hf : PySem.W.isFn X.K (.ref f) = true) : OpS X Wx (compareOp .In) (bInI C false m) := ⟨fun pins s σ b h x y x' y' v u Q I S r1 r2 rv ru q => by
  unfold bInI at q
  split at q
  · rename_i C' fs ei
    by_cases hC : C' = C
    case neg => rw [if_neg hC] at q; exact q.elim
    rw [if_pos hC] at q
    subst hC
    obtain ⟨ad, dx, ps, rfl, h3, _⟩ := S.insW r2 ei
    obtain ⟨mA, O, _⟩ := ins_get I.hok h3
    obtain ⟨od, J, _⟩ := O.look
    obtain ⟨mm, hF⟩ := I.fr
    cases ru
    refine PySem.W.in_K hF I.ok.mod.kin J hs hf ?_
    refine wpAny_mono (cm.here (us := [.ref ad, v]) (vs := [.ref ad, x']) I (.cons rfl (.cons rv .nil)) S (.cons r2 (.cons r1 .nil)) rfl (Post.bind (rel := Rl X.K) q)) (fun w s' hq => ?_) fun _ _ z => z
    obtain ⟨z, H', I', rz, c1, wz, h1, eH, E1, S1, rw, q'⟩ := hq
    subst eH
    cases rw with
    | bl k =>
      cases rz
      exact wpAny_truthy_bool ⟨.bl k, _, I', rfl, q'.here S1 (.bl _)⟩
    | _ => exact q'.elim
  · exact q.elim⟩
theorem os_notinI (cm : CalM X Wx f 2 m) (hs : PySem.W.findIn X.K (.ref (He.ga X.K C)) "__contains__" = some (some (.ref f))) (hf : PySem.W.isFn X.K (.ref f) = true) : OpS X Wx (compareOp .NotIn) (bInI C true m) := ⟨fun pins s σ b h x y x' y' v u Q I S r1 r2 rv ru q => by
  unfold bInI at q
  split at q
  · rename_i C' fs ei
    by_cases hC : C' = C
    case neg => rw [if_neg hC] at q; exact q.elim
    rw [if_pos hC] at q
    subst hC
    obtain ⟨ad, dx, ps, rfl, h3, _⟩ := S.insW r2 ei
    obtain ⟨mA, O, _⟩ := ins_get I.hok h3
    obtain ⟨od, J, _⟩ := O.look
    obtain ⟨mm, hF⟩ := I.fr
    cases ru
    refine PySem.W.notIn_K hF I.ok.mod.kin J hs hf ?_
    refine wpAny_mono (cm.here (us := [.ref ad, v]) (vs := [.ref ad, x']) I (.cons rfl (.cons rv .nil)) S (.cons r2 (.cons r1 .nil)) rfl (Post.bind (rel := Rl X.K) q)) (fun w s' hq => ?_) fun _ _ z => z
    obtain ⟨z, H', I', rz, c1, wz, h1, eH, E1, S1, rw, q'⟩ := hq
    subst eH
    cases rw with
    | bl k =>
      cases rz
      exact wpAny_truthy_bool ⟨.bl (!k), _, I', rfl, q'.here S1 (.bl _)⟩
    | _ => exact q'.elim
  · exact q.elim⟩
/-- len(x), x an instance -/
def bLenI (C : Str) (m : List W → MH → R W) (ws : List W) (h : MH) : R W := match ws with
  | [x] => match insW h x with
    | some (C', _) => if C' = C then (m [x] h).bind fun r h1 => match r with
      | .int n => @ite _ (0 ≤ n ∧ n < 2 ^ 63) (Classical.propDecidable _) (.ok (.int n) h1) .stuck
      | _ => .stuck else .stuck
    | none => .stuck
  | _ => .stuck
theorem cs_lenI (cm : CalM X Wx f 1 m) (hs : PySem.W.findIn X.K (.ref (He.ga X.K C)) "__len__" = some (some (.ref f))) (hf : PySem.W.isFn X.K (.ref f) = true) : CallS X Wx (.builtin "len") (bLenI C m) := ⟨fun pins s σ b h ws vs us Q I S r rv q => by
  unfold bLenI at q
  split at q
  · rename_i i
    obtain ⟨y, rfl, r1⟩ := rls1 r
    obtain ⟨u, rfl, ru⟩ := rv.one
    split at q
    · rename_i C' fs ei
      by_cases hC : C' = C
      case neg => rw [if_neg hC] at q; exact q.elim
      rw [if_pos hC] at q
      subst hC
      obtain ⟨ad, dx, ps, rfl, h3, _⟩ := S.insW r1 ei
      obtain ⟨mA, O, _⟩ := ins_get I.hok h3
      obtain ⟨od, J, _⟩ := O.look
      obtain ⟨mm, hF⟩ := I.fr
      cases ru
      refine PySem.W.len_K hF I.ok.mod.kin J hs hf ?_
      refine wpAny_mono (cm.in1 (us := [.ref ad]) (vs := [.ref ad]) I (.cons rfl .nil) S (.cons r1 .nil) rfl (Post.bind (rel := Rl X.K) q)) (fun w s' hq => ?_) fun _ _ z => z
      obtain ⟨z, H', I', rz, c1, wz, h1, eH, E1, S1, rw, q'⟩ := hq
      subst eH
      cases rw with
      | int k =>
        obtain ⟨t, rfl⟩ := rz
        dsimp only at q'
        by_cases hk : 0 ≤ k ∧ k < 2 ^ 63
        · rw [if_pos hk] at q'
          exact ⟨hk, .int k, _, I'.tok _, ⟨_, rfl⟩, q'.here S1 (.int _)⟩
        · rw [if_neg hk] at q'; exact q'.elim
      | _ => exact q'.elim
    · exact q.elim
  · exact q.elim⟩
end
end PM
/-! Sm19: dicts; methods of built-in types. -/
noncomputable section
namespace PM
open PySem PySem.Spec L2
open PyProof.Rows hiding St
/-- one of two readings -/
theorem se_or2 {X : Cx} {Wx : WX} {e : Expr} {m n k : EM} (a : SE X Wx e m) (c : SE X Wx e n) (h : ∀ σ g, k σ g = m σ g ∨ k σ g = n σ g ∨ k σ g = .stuck) : SE X Wx e k := ⟨⟨fun pins s σ H Q I q => by
  obtain ⟨b, g, σm, e, S, l, q⟩ := q
  rcases h σm g with z | z | z
  · exact a.pe.run pins s σ H Q I ⟨b, g, σm, e, S, l, by rw [← z]; exact q⟩
  · exact c.pe.run pins s σ H Q I ⟨b, g, σm, e, S, l, by rw [← z]; exact q⟩
  · rw [z] at q; exact q.elim⟩⟩
theorem ss_or2 {X : Cx} {Wx : WX} {st : Stmt} {m n k : SM} (a : SS X Wx st m) (c : SS X Wx st n) (h : ∀ σ g, k σ g = m σ g ∨ k σ g = n σ g ∨ k σ g = .stuck) : SS X Wx st k := ⟨⟨fun pins s σ H D I q => by
  obtain ⟨b, g, σm, e, S, l, q⟩ := q
  rcases h σm g with z | z | z
  · exact a.ps.run pins s σ H D I ⟨b, g, σm, e, S, l, by rw [← z]; exact q⟩
  · exact c.ps.run pins s σ H D I ⟨b, g, σm, e, S, l, by rw [← z]; exact q⟩
  · rw [z] at q; exact q.elim⟩⟩
/-! ### reading and writing -/
/-- x[k], a dict -/
def bDix : W → W → MH → R W := fun x y h => match dctW h x, keyOf y with
  | some kvs, some k => match valM kvs k with
    | some w => .ok w h
    | none => .stuck
  | _, _ => .stuck
def bDin (neg : Bool) : W → W → MH → R W := fun x y h => match dctW h y, keyOf x with
  | some kvs, some k => .ok (.bl (if neg then !(valM kvs k).isSome else (valM kvs k).isSome)) h
  | _, _ => .stuck
section
variable {X : Cx} {Wx : WX} {k : Nat} {a c e o i value : Expr} {ma mc me mo mi mv : EM} {pos pos' tpos : Pos}
theorem dget_of {K : PySem.W.Frag} {b : Bs} {h : MH} {x : W} {xv : V} {kvs : List (Key × W)} {y : W} {v : V} {k : Key} (S : Sim K b h) (rx : Rl K b x xv) (e : dctW h x = some kvs) (r : Rl K b y v) (ek : keyOf y = some k) :
    ∃ a o, xv = .ref a ∧ DGet b.H a v o ∧ (match valM kvs k with
      | some w => ∃ v, o = some v ∧ Rl K b w v
      | none => o = none) := by
  obtain ⟨a, ps, rfl, rd, rk⟩ := S.dicW rx e
  have := keyOf_ok ek r
  exact ⟨a, valV ps k, rfl, .inl ⟨ps, k, rd, this, rfl⟩, rk.val k⟩
theorem se_dix (hr : Room k X.A) (ha : SE X Wx a ma) (hc : SE X Wx c mc) (hs : NoSl c := by exact fun _ _ => rfl) : SE X Wx (.Subscript a c pos) (e2 bDix ma mc) := by
  refine ⟨pe_imp (pe_dget (by have := hr.units; omega) ha.pe hc.pe hs) fun σ H Q ⟨b, h, σm, eH, S, l, q⟩ => ?_⟩
  subst eH
  refine ⟨b, h, σm, rfl, S, l, (Post.bind (rel := Rl X.K) q).mono fun x' H1 ⟨c1, x, h1, eH, E1, S1, r1, q1⟩ => ?_⟩
  subst eH
  refine ⟨c1, h1, σm, rfl, S1, l.ext E1, (Post.bind (rel := Rl X.K) q1).mono fun y' H2 ⟨c2, y, h2, eH, E2, S2, r2, q2⟩ => ?_⟩
  subst eH
  unfold bDix at q2
  split at q2
  · rename_i kvs k ed ek
    obtain ⟨a, o, rfl, g, m⟩ := dget_of S2 (r1.ext E2) ed r2 ek
    cases ev : valM kvs k with
    | none => rw [ev] at q2; exact q2.elim
    | some w =>
      rw [ev] at q2 m
      obtain ⟨v, rfl, rv⟩ := m
      exact ⟨_, v, rfl, g, q2.here S2 rv⟩
  · exact q2.elim
theorem os_din (hr : Room k X.A) : OpS X Wx (compareOp .In) (bDin false) := ⟨fun pins s σ b h x y x' y' v u Q I S r1 r2 rv ru q => by
  unfold bDin at q
  split at q
  · rename_i kvs k ed ek
    obtain ⟨a, o, rfl, g, m⟩ := dget_of S r2 ed r1 ek
    cases ru
    refine d_in (by have := hr.units; omega) I g rv fun s' I' => ⟨.bl o.isSome, b.H, I', rfl, ?_⟩
    have eo : o.isSome = (valM kvs k).isSome := by
      cases ev : valM kvs k with
      | none => rw [ev] at m; rw [m]; rfl
      | some w => rw [ev] at m; obtain ⟨v, e1, _⟩ := m; rw [e1]; rfl
    rw [eo]
    exact q.here S (.bl _)
  · exact q.elim⟩
theorem os_dnotin (hr : Room k X.A) : OpS X Wx (compareOp .NotIn) (bDin true) := ⟨fun pins s σ b h x y x' y' v u Q I S r1 r2 rv ru q => by
  unfold bDin at q
  split at q
  · rename_i kvs k ed ek
    obtain ⟨a, o, rfl, g, m⟩ := dget_of S r2 ed r1 ek
    cases ru
    refine d_notIn (by have := hr.units; omega) I g rv fun s' I' => ⟨.bl (!o.isSome), b.H, I', rfl, ?_⟩
    have eo : o.isSome = (valM kvs k).isSome := by
      cases ev : valM kvs k with
      | none => rw [ev] at m; rw [m]; rfl
      | some w => rw [ev] at m; obtain ⟨v, e1, _⟩ := m; rw [e1]; rfl
    rw [eo]
    exact q.here S (.bl _)
  · exact q.elim⟩
/-- o[i] = v, a dict -/
def sDput (mo mi mv : EM) : SM := fun σ h => (mv σ h).st σ fun v h1 => (mo σ h1).st σ fun o h2 => (mi σ h2).st σ fun i h3 => match o, keyOf i with
  | .ref j, some k => match h3[j]? with
    | some (.dct kvs) => if kvs.length < sizeLine then .nx σ (h3.set j (.dct (putM kvs k v))) else .stuck
    | _ => .stuck
  | _, _ => .stuck
theorem ss_dput (hr : Room k X.A) (ho : SE X Wx o mo) (hi : SE X Wx i mi) (hv : SE X Wx value mv) (hs : swapsWith value (some (.Subscript o i pos')) pos.line X.env = pure false := by rfl) : SS X Wx (.Assign [.Subscript o i pos'] value pos) (sDput mo mi mv) := by
  refine ⟨ps_imp (ps_dput (by have := hr.units; omega) ho.pe hi.pe hv.pe hs) fun D σ H ⟨b, h, σm, eH, S, l, q⟩ => ?_⟩
  subst eH
  refine ⟨b, h, σm, rfl, S, l, (PostS.st (rel := Rl X.K) l q).mono fun y' H1 ⟨c1, y, h1, eH, E1, S1, r1, q1⟩ => ?_⟩
  subst eH
  refine ⟨c1, h1, σm, rfl, S1, l.ext E1, (PostS.st (rel := Rl X.K) (l.ext E1) q1).mono fun x' H2 ⟨c2, x, h2, eH, E2, S2, r2, q2⟩ => ?_⟩
  subst eH
  refine ⟨c2, h2, σm, rfl, S2, (l.ext E1).ext E2, (PostS.st (rel := Rl X.K) ((l.ext E1).ext E2) q2).mono fun z' H3 ⟨c3, z, h3, eH, E3, S3, r3, q3⟩ => ?_⟩
  subst eH
  cases r2 with
  | ref j hj =>
    cases ek : keyOf z with
    | none => rw [ek] at q3; exact q3.elim
    | some k =>
      rw [ek] at q3
      dsimp only at q3
      split at q3
      · rename_i kvs eo
        by_cases hz : kvs.length < sizeLine
        case neg => rw [if_neg hz] at q3; exact q3.elim
        rw [if_pos hz] at q3
        obtain ⟨ps, h4, rk, _⟩ := S3.dict eo
        have hkey := keyOf_ok ek r3
        have rw3 := (r1.ext E2).ext E3
        have ex : PM.Ext X.K c3 (c3.put j (.dK (putK ps k y'))) := Ext.put (S3.ob j _ eo) rfl
        refine ⟨c3.at_ j, upd c3.H (c3.at_ j) (.dK (putK ps k y')), by rw [E3.ix j hj], .inl ⟨ps, k, h4, hkey, by rw [rk.len]; exact hz, rfl⟩, ?_⟩
        exact q3 (c3.put j (.dK (putK ps k y'))) _ ex (S3.put eo rfl rfl ⟨_, upd_same, (rk.put k rw3).ext ex⟩) ((((l.ext E1).ext E2).ext E3).ext ex)
      · exact q3.elim
  | _ => exact q3.elim
/-- del o[i], a dict -/
def sDdel (mo mi : EM) : SM := fun σ h => (mo σ h).st σ fun o h2 => (mi σ h2).st σ fun i h3 => match o, keyOf i with
  | .ref j, some k => match h3[j]? with
    | some (.dct kvs) => if (valM kvs k).isSome = true then .nx σ (h3.set j (.dct (dropM kvs k))) else .stuck
    | _ => .stuck
  | _, _ => .stuck
theorem ss_ddel (ho : SE X Wx o mo) (hi : SE X Wx i mi) : SS X Wx (.Delete [.Subscript o i tpos] pos) (sDdel mo mi) := by
  refine ⟨ps_imp (ps_ddel ho.pe hi.pe) fun D σ H ⟨b, h, σm, eH, S, l, q⟩ => ?_⟩
  subst eH
  refine ⟨b, h, σm, rfl, S, l, (PostS.st (rel := Rl X.K) l q).mono fun x' H2 ⟨c2, x, h2, eH, E2, S2, r2, q2⟩ => ?_⟩
  subst eH
  refine ⟨c2, h2, σm, rfl, S2, l.ext E2, (PostS.st (rel := Rl X.K) (l.ext E2) q2).mono fun z' H3 ⟨c3, z, h3, eH, E3, S3, r3, q3⟩ => ?_⟩
  subst eH
  cases r2 with
  | ref j hj =>
    cases ek : keyOf z with
    | none => rw [ek] at q3; exact q3.elim
    | some k =>
      rw [ek] at q3
      dsimp only at q3
      split at q3
      · rename_i kvs eo
        by_cases hz : (valM kvs k).isSome = true
        case neg => rw [if_neg hz] at q3; exact q3.elim
        rw [if_pos hz] at q3
        obtain ⟨ps, h4, rk, _⟩ := S3.dict eo
        have hkey := keyOf_ok ek r3
        have ex : PM.Ext X.K c3 (c3.put j (.dK (dropK ps k))) := Ext.put (S3.ob j _ eo) rfl
        have hv : (valV ps k).isSome = true := by
          have m := rk.val k
          obtain ⟨w, ew⟩ := Option.isSome_iff_exists.mp hz
          rw [ew] at m
          obtain ⟨v, e1, _⟩ := m
          rw [e1]; rfl
        refine ⟨c3.at_ j, ps, k, by rw [E3.ix j hj], h4, hkey, hv, ?_⟩
        exact q3 (c3.put j (.dK (dropK ps k))) _ ex (S3.put eo rfl rfl ⟨_, upd_same, (rk.drop k).ext ex⟩) (((l.ext E2).ext E3).ext ex)
      · exact q3.elim
  | _ => exact q3.elim
end
end PM
/-! Sm20: methods of lists, dicts, texts. -/
noncomputable section
namespace PM
open PySem PySem.Spec L2
open PyProof.Rows hiding St
def bty (w : W) (h : MH) : Option String := match w with
  | .str _ => some "str"
  | .ref i => match lstAt h i with
    | some _ => some "list"
    | none => match dctAt h i with
      | some _ => some "dict"
      | none => none
  | .vl _ => some "list"
  | .vd _ => some "dict"
  | _ => none
section
variable {X : Cx} {Wx : WX}
theorem bty_is {pins : List (Addr × Obj)} {σ : L2.St} {b : Bs} {h : MH} {s : Shared} {T : String} {w : W} {x : V} {v : Value} (I : Inv X pins σ b.H s) (S : Sim X.K b h) (r1 : Rl X.K b w x) (r : RelV x v) (ty : bty w h = some T) :
    s.TypeIs v T ∧ ∀ a, v = .ref a → ∃ ob, s.heap.get? a = some ob ∧ ob.dict = none := by
  unfold bty at ty
  cases r1 with
  | str z => cases ty; exact tyV_is I r rfl
  | ref i hi =>
    dsimp only at ty
    split at ty
    · rename_i xs e
      cases ty
      obtain ⟨vs, q, _⟩ := S.list e
      exact tyV_is I r (.inl ⟨rfl, vs, q⟩)
    · split at ty
      · rename_i kvs e
        cases ty
        obtain ⟨ps, q, _⟩ := S.dic e
        cases r
        obtain ⟨h1, h2, _⟩ := isD_at I (.inl ⟨ps, q⟩)
        exact ⟨h1, h2⟩
      · cases ty
  | vl a ws vs z _ =>
    cases ty
    exact tyV_is I r (.inl ⟨rfl, vs, S.zl z⟩)
  | vd a kvs ps z _ _ =>
    cases ty
    cases r
    obtain ⟨h1, h2, _⟩ := isD_at I (.inl ⟨ps, S.zh a _ z⟩)
    exact ⟨h1, h2⟩
  | _ => cases ty
/-- o.name(..) of a built-in type -/
def eBM (T : String) (m : List W → MH → R W) (mo : EM) (n : AM) : EM := fun σ h => (mo σ h).bind fun x h1 => if bty x h1 = some T then (n σ h1).bind fun ws h2 => m (x :: ws) h2 else .stuck
variable {o e : Expr} {es : List Expr} {mo : EM} {n : AM} {name : Str} {apos cpos : Pos} {T id : String} {m : List W → MH → R W}
theorem se_bm0 (pa : PlainAttrs T) (slot : Slot T name id) (hty : typeOf (.builtin id) = pure (.type "method_descriptor")) (hm : CallS X Wx (.builtin id) m) (ho : SE X Wx o mo)
    (hbase : attributeBase o name X.env (eval o X.env) = eval o X.env := by rfl) (hline : (apos.endLine == cpos.line) = true := by rfl) : SE X Wx (.Call (.Attribute o name apos) [] [] cpos) (eBM T m mo aNil) := by
  refine ⟨⟨fun pins s σ H Q I q => ?_⟩⟩
  obtain ⟨b, h, σm, rfl, S, l, q⟩ := q
  refine wpAny_Call_method0_late hbase hline (thn (ho.pe.run pins s σ _ _ I ⟨b, h, σm, rfl, S, l, Post.bind (rel := Rl X.K) q⟩) fun v s1 ⟨x, H1, I1, r1, c1, w, h1, e1, E1, S1, rw, q1⟩ => ?_)
  subst e1
  by_cases ty : bty w h1 = some T
  case neg => rw [if_neg ty] at q1; exact q1.elim
  rw [if_pos ty] at q1
  obtain ⟨h1', h2'⟩ := bty_is I1 S1 rw r1 ty
  exact ⟨T, id, pa, slot, hty, h1', h2', Calls.callWith_builtin rfl (PySem.evalArgs_none (hm.run pins s1 σ c1 h1 [w] [x] [v] Q I1 S1 (.cons rw .nil) (.cons r1 .nil) q1))⟩
theorem se_bm (pa : PlainAttrs T) (slot : Slot T name id) (hty : typeOf (.builtin id) = pure (.type "method_descriptor")) (hm : CallS X Wx (.builtin id) m) (ho : SE X Wx o mo) (ha : SA X Wx (e :: es) n)
    (hbase : attributeBase o name X.env (eval o X.env) = eval o X.env := by rfl)
    (hfew : ((backTo cpos (starEach (e :: es) X.env)).all (fun x => !x.1) && (backToKw cpos (keywordEach [] X.env)).all (fun x => x.1.isSome)
      && decide ((e :: es).length + ([] : List Keyword).length + (if ([] : List Keyword).isEmpty then 0 else 1) < 30)) = true := by rfl)
    (hline : (apos.endLine == cpos.line) = true := by rfl) (hs : starEach (e :: es) X.env = (false, eval e X.env) :: starEach es X.env := by rfl) (hplain : (backTo cpos (starEach es X.env)).any (·.1) = false := by rfl) :
    SE X Wx (.Call (.Attribute o name apos) (e :: es) [] cpos) (eBM T m mo n) := by
  refine ⟨⟨fun pins s σ H Q I q => ?_⟩⟩
  obtain ⟨b, h, σm, rfl, S, l, q⟩ := q
  refine wpAny_Call_method_late hbase hfew hline rfl (thn (ho.pe.run pins s σ _ _ I ⟨b, h, σm, rfl, S, l, Post.bind (rel := Rl X.K) q⟩) fun v s1 ⟨x, H1, I1, r1, c1, w, h1, e1, E1, S1, rw, q1⟩ => ?_)
  subst e1
  by_cases ty : bty w h1 = some T
  case neg => rw [if_neg ty] at q1; exact q1.elim
  rw [if_pos ty] at q1
  obtain ⟨h1', h2'⟩ := bty_is I1 S1 rw r1 ty
  refine ⟨T, id, pa, slot, hty, h1', h2', ?_⟩
  have hA := ha.run cpos I1 S1 (l.ext E1) (Post.bind q1)
  rw [hs] at hA ⊢
  refine Calls.callWith_builtin (by show (false || (backTo cpos (starEach es X.env)).any (·.1)) = false; rw [hplain] <;> rfl) (Calls.evalArgs_plain ?_)
  refine thn hA fun us s2 ⟨vs, H2, I2, r2, c2, ws, h2, e2, E2, S2, l2, q2⟩ => ?_
  subst e2
  exact hm.run pins s2 σ c2 h2 (w :: ws) (x :: vs) (v :: us) Q I2 S2 (.cons (rw.ext E2) l2) (.cons r1 r2) q2
theorem CallS.mt {r : V → List V → Hp → VK → Prop} (hm : MtM X id r)
    (k : ∀ (σ : L2.St) (b : Bs) (h : MH) (ws : List W) (vs : List V) (Q : VK), Sim X.K b h → Rls X.K b ws vs → Post X.K (Rl X.K) (fun c d H' => Wx c d σ H') b Q (m ws h) → ∃ v vt, vs = v :: vt ∧ r v vt b.H Q) : CallS X Wx (.builtin id) m :=
  ⟨fun pins s σ b h ws vs us Q I S r rv q => by
    obtain ⟨v, vt, rfl, z⟩ := k σ b h ws vs Q S r q
    cases rv with
    | cons r1 r2 => exact hm pins s σ b.H v vt _ _ Q I r1 r2 z⟩
theorem Sim.putL2 {K : PySem.W.Frag} {b : Bs} {h : MH} (S : Sim K b h) {i : Nat} {xs ys : List W} {vs : List V} (e : mutAt h i = some xs) (r : Rls K b ys vs) :
    PM.Ext K b (b.put i (.lst vs)) ∧ Sim K (b.put i (.lst vs)) (h.set i (.lst ys)) := by
  have ex : PM.Ext K b (b.put i (.lst vs)) := Ext.put (S.ob i _ (mutAt_eq e)) rfl
  exact ⟨ex, S.put (mutAt_eq e) rfl rfl ⟨_, upd_same, r.ext ex⟩⟩
/-! ### lists -/
def bApp (ws : List W) (h : MH) : R W := match ws with
  | [.ref i, y] => match mutAt h i with
    | some xs => if xs.length < sizeLine then .ok .non (h.set i (.lst (xs ++ [y]))) else .stuck
    | none => .stuck
  | _ => .stuck
theorem cs_append : CallS X Wx (.builtin "list.append") bApp := .mt mt_append fun σ b h ws vs Q S r q => by
  unfold bApp at q
  split at q
  · rename_i i y
    cases r with
    | cons r1 rr => cases rr with
      | cons r2 rr => cases rr; cases r1 with
        | ref _ hi =>
          split at q
          · rename_i xs e
            obtain ⟨us, h1, rx, _⟩ := S.mut e
            by_cases hz : xs.length < sizeLine
            case neg => rw [if_neg hz] at q; exact q.elim
            rw [if_pos hz] at q
            obtain ⟨ex, S2⟩ := S.putL2 e (rx.append (.cons r2 .nil))
            exact ⟨_, _, rfl, _, us, _, rfl, rfl, h1, by rw [← rx.length]; exact hz, q _ _ ex S2 .non⟩
          · exact q.elim
  · exact q.elim
def bExt (ws : List W) (h : MH) : R W := match ws with
  | [.ref i, y] => match mutAt h i, mlW h y with
    | some xs, some ys => if xs.length + ys.length ≤ sizeLine then .ok .non (h.set i (.lst (xs ++ ys))) else .stuck
    | _, _ => .stuck
  | _ => .stuck
theorem cs_extend : CallS X Wx (.builtin "list.extend") bExt := .mt mt_extend fun σ b h ws vs Q S r q => by
  unfold bExt at q
  split at q
  · rename_i i y
    cases r with
    | cons r1 rr => cases rr with
      | cons r2 rr => cases rr; cases r1 with
        | ref _ hi =>
          split at q
          · rename_i xs ys e e'
            obtain ⟨us, h1, rx, _⟩ := S.mut e
            obtain ⟨a', us', rfl, h1', ry⟩ := S.mlW r2 e'
            by_cases hz : xs.length + ys.length ≤ sizeLine
            case neg => rw [if_neg hz] at q; exact q.elim
            rw [if_pos hz] at q
            obtain ⟨ex, S2⟩ := S.putL2 e (rx.append ry)
            exact ⟨_, _, rfl, _, _, us, us', rfl, rfl, h1, h1', by rw [← rx.length, ← ry.length]; exact hz, q _ _ ex S2 .non⟩
          · exact q.elim
  · exact q.elim
/-- l.pop(), l.pop(k) -/
def bPop (ws : List W) (h : MH) : R W := match ws with
  | [.ref i] => match mutAt h i with
    | some xs => match xs[xs.length - 1]? with
      | some y => .ok y (h.set i (.lst xs.dropLast))
      | none => .stuck
    | none => .stuck
  | [.ref i, .int k] => match mutAt h i with
    | some xs => match ixN xs.length k with
      | some n => match xs[n]? with
        | some y => .ok y (h.set i (.lst (xs.eraseIdx n)))
        | none => .stuck
      | none => .stuck
    | none => .stuck
  | _ => .stuck
theorem Rls.dropLast {K : PySem.W.Frag} {b : Bs} : ∀ {ws : List W} {vs : List V}, Rls K b ws vs → Rls K b ws.dropLast vs.dropLast
  | _, _, .nil => .nil
  | _, _, .cons _ .nil => .nil
  | _, _, .cons r (.cons r2 t) => .cons r (Rls.dropLast (.cons r2 t))
theorem Rls.eraseIdx {K : PySem.W.Frag} {b : Bs} : ∀ {ws : List W} {vs : List V} (i : Nat), Rls K b ws vs → Rls K b (ws.eraseIdx i) (vs.eraseIdx i)
  | _, _, _, .nil => .nil
  | _, _, 0, .cons _ t => t
  | _, _, i + 1, .cons r t => .cons r (Rls.eraseIdx i t)
theorem cs_pop : CallS X Wx (.builtin "list.pop") bPop := ⟨fun pins s σ b h ws vs us Q I S r rv q => by
  unfold bPop at q
  split at q
  · rename_i i
    cases r with
    | cons r1 rr => cases rr; cases r1 with
      | ref _ hi =>
        split at q
        · rename_i xs e
          split at q
          · rename_i y ey
            obtain ⟨us', h1, rx, _⟩ := S.mut e
            obtain ⟨v, ev, r2⟩ := rx.get ey
            obtain ⟨ex, S2⟩ := S.putL2 e rx.dropLast
            cases rv with
            | cons q1 q2 =>
              exact mt_pop pins s σ b.H _ _ _ _ Q I q1 q2 ⟨_, us', v, rfl, rfl, h1, by rw [← rx.length]; exact ev, q _ _ ex S2 (r2.ext ex)⟩
          · exact q.elim
        · exact q.elim
  · rename_i i k
    cases r with
    | cons r1 rr => cases rr with
      | cons r2 rr => cases rr; cases r2; cases r1 with
        | ref _ hi =>
          split at q
          · rename_i xs e
            split at q
            · rename_i n en
              split at q
              · rename_i y ey
                obtain ⟨us', h1, rx, _⟩ := S.mut e
                obtain ⟨v, ev, r2⟩ := rx.get ey
                obtain ⟨ex, S2⟩ := S.putL2 e (rx.eraseIdx n)
                obtain ⟨e1, e2, e3, e4⟩ := ixN_seq en
                have hz : xs.length ≤ sizeLine := by
                  have := (I.lstM h1).1
                  rw [rx.length]; exact this
                have hl := line63
                cases rv with
                | cons q1 q2 =>
                  exact mt_popAt pins s σ b.H _ _ _ _ Q I q1 q2 ⟨_, us', k, n, v, rfl, rfl, h1, by omega, by omega, by rw [← rx.length]; exact e1, ev, q _ _ ex S2 (r2.ext ex)⟩
              · exact q.elim
            · exact q.elim
          · exact q.elim
  · exact q.elim⟩
def bClrL (ws : List W) (h : MH) : R W := match ws with
  | [.ref i] => match mutAt h i with
    | some xs => .ok .non (h.set i (.lst []))
    | none => .stuck
  | _ => .stuck
theorem cs_clearL : CallS X Wx (.builtin "list.clear") bClrL := .mt mt_clear fun σ b h ws vs Q S r q => by
  unfold bClrL at q
  split at q
  · rename_i i
    cases r with
    | cons r1 rr => cases rr; cases r1 with
      | ref _ hi =>
        split at q
        · rename_i xs e
          obtain ⟨us, h1, rx, _⟩ := S.mut e
          obtain ⟨ex, S2⟩ := S.putL2 e (ys := []) .nil
          exact ⟨_, _, rfl, _, us, rfl, rfl, h1, q _ _ ex S2 .non⟩
        · exact q.elim
  · exact q.elim
end
end PM
/-! Sm21: methods of dicts, list(), dict(), sorted(). -/
noncomputable section
namespace PM
open PySem PySem.Spec L2
open PyProof.Rows hiding St
section
variable {X : Cx} {Wx : WX}
/-- d.get(k), d.get(k, x) -/
def bDget (ws : List W) (h : MH) : R W := match ws with
  | [x, y] => match dctW h x, keyOf y with
    | some kvs, some k => .ok ((valM kvs k).getD .non) h
    | _, _ => .stuck
  | [x, y, z] => match dctW h x, keyOf y with
    | some kvs, some k => .ok ((valM kvs k).getD z) h
    | _, _ => .stuck
  | _ => .stuck
theorem cs_dget {k : Nat} (hr : Room k X.A) : CallS X Wx (.builtin "dict.get") bDget := ⟨fun pins s σ b h ws vs us Q I S r rv q => by
  unfold bDget at q
  split at q
  · rename_i x y
    cases r with
    | cons r1 rr => cases rr with
      | cons r2 rr => cases rr; cases rv with
        | cons v1 rv => cases rv with
          | cons v2 rv =>
              cases rv
              split at q
              · rename_i kvs k ed ek
                obtain ⟨a, o, rfl, g, m⟩ := dget_of S r1 ed r2 ek
                cases v1
                refine d_get1 (by have := hr.units; omega) I g v2 fun w' s' I' rw' => ⟨_, b.H, I', rw', q.here S ?_⟩
                cases ev : valM kvs k with
                | none => rw [ev] at m; rw [m]; exact .non
                | some w => rw [ev] at m; obtain ⟨v, e1, r3⟩ := m; rw [e1]; exact r3
              · exact q.elim
  · rename_i x y z
    cases r with
    | cons r1 rr => cases rr with
      | cons r2 rr => cases rr with
        | cons r3 rr => cases rr; cases rv with
          | cons v1 rv => cases rv with
            | cons v2 rv => cases rv with
              | cons v3 rv =>
                  cases rv
                  split at q
                  · rename_i kvs k ed ek
                    obtain ⟨a, o, rfl, g, m⟩ := dget_of S r1 ed r2 ek
                    cases v1
                    refine d_get2 (by have := hr.units; omega) I g v2 v3 fun w' s' I' rw' => ⟨_, b.H, I', rw', q.here S ?_⟩
                    cases ev : valM kvs k with
                    | none => rw [ev] at m; rw [m]; exact r3
                    | some w => rw [ev] at m; obtain ⟨v, e1, r4⟩ := m; rw [e1]; exact r4
                  · exact q.elim
  · exact q.elim⟩
/-- d.pop(k), d.pop(k, x) -/
def bDpop (ws : List W) (h : MH) : R W := match ws with
  | [.ref i, y] => match h[i]?, keyOf y with
    | some (.dct kvs), some k => match valM kvs k with
      | some w => .ok w (h.set i (.dct (dropM kvs k)))
      | none => .stuck
    | _, _ => .stuck
  | [.ref i, y, z] => match h[i]?, keyOf y with
    | some (.dct kvs), some k => match valM kvs k with
      | some w => .ok w (h.set i (.dct (dropM kvs k)))
      | none => .ok z h
    | _, _ => .stuck
  | _ => .stuck
theorem cs_dpop : CallS X Wx (.builtin "dict.pop") bDpop := ⟨fun pins s σ b h ws vs us Q I S r rv q => by
  unfold bDpop at q
  split at q
  · rename_i i y
    cases r with
    | cons r1 rr => cases rr with
      | cons r2 rr => cases rr; cases rv with
        | cons v1 rv => cases rv with
          | cons v2 rv => cases rv; cases r1 with
            | ref _ hi =>
              split at q
              · rename_i kvs k ed ek
                obtain ⟨ps, h4, rk, _⟩ := S.dict ed
                have m := rk.val k
                have hk := keyOf_ok ek r2
                cases v1
                cases ev : valM kvs k with
                | none => rw [ev] at q; exact q.elim
                | some w =>
                  rw [ev] at q m
                  obtain ⟨v, e1, r3⟩ := m
                  obtain ⟨ex, S2⟩ := S.putD ed (rk.drop k)
                  subst hk
                  exact d_pop I h4 v2 e1 (.inl rfl) fun w' s' I' rw' => ⟨v, _, I', rw', q _ _ ex S2 (r3.ext ex)⟩
              · exact q.elim
  · rename_i i y z
    cases r with
    | cons r1 rr => cases rr with
      | cons r2 rr => cases rr with
        | cons r3 rr => cases rr; cases rv with
          | cons v1 rv => cases rv with
            | cons v2 rv => cases rv with
              | cons v3 rv => cases rv; cases r1 with
                | ref _ hi =>
                  split at q
                  · rename_i kvs k ed ek
                    obtain ⟨ps, h4, rk, _⟩ := S.dict ed
                    have m := rk.val k
                    have hk := keyOf_ok ek r2
                    cases v1
                    subst hk
                    cases ev : valM kvs k with
                    | none =>
                      rw [ev] at q m
                      exact d_popD I h4 v2 m fun s' I' => ⟨_, b.H, I', v3, q.here S r3⟩
                    | some w =>
                      rw [ev] at q m
                      obtain ⟨v, e1, r4⟩ := m
                      obtain ⟨ex, S2⟩ := S.putD ed (rk.drop k)
                      exact d_pop I h4 v2 e1 (.inr ⟨_, rfl⟩) fun w' s' I' rw' => ⟨v, _, I', rw', q _ _ ex S2 (r4.ext ex)⟩
                  · exact q.elim
  · exact q.elim⟩
def bDclr (ws : List W) (h : MH) : R W := match ws with
  | [.ref i] => match h[i]? with
    | some (.dct _) => .ok .non (h.set i (.dct []))
    | _ => .stuck
  | _ => .stuck
theorem cs_dclear : CallS X Wx (.builtin "dict.clear") bDclr := .mt mtd_clear fun σ b h ws vs Q S r q => by
  unfold bDclr at q
  split at q
  · rename_i i
    cases r with
    | cons r1 rr => cases rr; cases r1 with
      | ref _ hi =>
        split at q
        · rename_i kvs ed
          obtain ⟨ps, h4, rk, _⟩ := S.dict ed
          obtain ⟨ex, S2⟩ := S.putD ed (kvs' := []) .nil
          exact ⟨_, _, rfl, _, ps, rfl, rfl, h4, q _ _ ex S2 .non⟩
        · exact q.elim
  · exact q.elim
/-- d.update(e), another dict -/
theorem KV_merged {ps qs : List (Key × V)} {vs rs : List (Key × Value)} (r : KV ps vs) (t : KV qs rs) : KV (mergeK ps qs) (merged vs rs) := KV.merge t r
def updB (kvs : List (Key × W)) (more : List (Key × W)) (i : Nat) (h : MH) : R W := if kvs.length + more.length ≤ sizeLine then .ok .non (h.set i (.dct (mergeM kvs more))) else .stuck
def sameR (i : Nat) : W → Bool
  | .ref j => decide (i = j)
  | _ => false
theorem Sim.ne_dic {K : PySem.W.Frag} {b : Bs} {h : MH} (S : Sim K b h) {i : Nat} {kvs more : List (Key × W)} {y : W} {a : Addr} (ei : h[i]? = some (.dct kvs)) (r : Rl K b y (.ref a)) (ej : dctW h y = some more) (n : ¬ sameR i y = true) : b.at_ i ≠ a := fun z => by
  cases r with
  | ref j hj =>
    have dj : dctAt h j = some more := ej
    unfold dctAt at dj
    have ij : i ≠ j := fun z => n (by unfold sameR; exact decide_eq_true z)
    split at dj
    · rename_i q1; exact ij (S.inj i j _ _ ei q1 rfl rfl z)
    · rename_i q1; exact ij (S.inj i j _ _ ei q1 rfl rfl z)
    · cases dj
  | vd a ks qs zz _ _ =>
    subst z
    rw [S.zd i _ ei rfl] at zz
    cases zz
  | _ => cases ej
def bDupd (ws : List W) (h : MH) : R W := match ws with
  | [.ref i, y] => if sameR i y = true then .stuck else match h[i]?, dctW h y with
    | some (.dct kvs), some more => updB kvs more i h
    | _, _ => .stuck
  | _ => .stuck
theorem cs_dupdate : CallS X Wx (.builtin "dict.update") bDupd := ⟨fun pins s σ b h ws vs us Q I S r rv q => by
  unfold bDupd at q
  split at q
  · rename_i i y
    by_cases hij : sameR i y = true
    · rw [if_pos hij] at q; exact q.elim
    rw [if_neg hij] at q
    cases r with
    | cons r1 rr => cases rr with
      | cons r2 rr => cases rr; cases rv with
        | cons v1 rv => cases rv with
          | cons v2 rv => cases rv; cases r1 with
            | ref _ hi =>
                split at q
                · rename_i kvs more ei ej
                  unfold updB at q
                  by_cases hz : kvs.length + more.length ≤ sizeLine
                  case neg => rw [if_neg hz] at q; exact q.elim
                  rw [if_pos hz] at q
                  obtain ⟨ps, h1, rk, _⟩ := S.dict ei
                  obtain ⟨aj, qs, rfl, h2, rl⟩ := S.dicW r2 ej
                  cases v1; cases v2
                  have ne := S.ne_dic ei r2 ej hij
                  obtain ⟨z1, lo1, xs, kx, dx⟩ := dk_of I.hok h1
                  obtain ⟨z2, lo2, ys, ky, dy⟩ := dk_rd I.hok h2
                  obtain ⟨ex, S2⟩ := S.putD ei (rl.merge rk)
                  have hl : xs.length + ys.length ≤ sizeLine := by rw [← kx.length, ← ky.length, rk.len, rl.len]; exact hz
                  refine call_meetsIn PySem.F.slot_dict_update dx.typeIs PySem.F.entry_dict_update (PySem.F.args_dict_update_2 _ _) (meets_dict_update (mixKind X.prog X.w) _ _ ne lo2) ⟨xs, ys, dx, dy, hl, fun h' dx' dy' hs => ?_⟩
                  have he : ∃ q, h'.get? (b.at_ i) = some q := let ⟨q, _, _, hq, _⟩ := dx'; ⟨q, hq⟩
                  have hm : (mergeK ps qs).length ≤ sizeLine := by
                    have := length_mergeK qs ps
                    have := rk.len
                    have := rl.len
                    omega
                  exact ⟨.non, _, d_write (t' := s.toks) I (by rw [h1]; exact True.intro) hs he (dk_new hm lo1 (KV_merged kx ky) dx'), rfl, q _ _ ex S2 .non⟩
                · exact q.elim
  · exact q.elim⟩
/-! ### made of others -/
theorem Sim.pushD2 {K : PySem.W.Frag} {b : Bs} {h : MH} (S : Sim K b h) {p : Addr} {kvs : List (Key × W)} {ps : List (Key × V)} (hp : b.H p = none) (r : Rlk K b kvs ps) : PM.Ext K b (b.push p (.dK ps)) ∧ Sim K (b.push p (.dK ps)) (h ++ [.dct kvs]) ∧ Rl K (b.push p (.dK ps)) (.ref h.length) (.ref p) := S.pushD hp r
/-- dict(d) -/
def bDict (ws : List W) (h : MH) : R W := match ws with
  | [x] => match dctW h x with
    | some kvs => .ok (.ref h.length) (h ++ [.dct kvs])
    | none => .stuck
  | _ => .stuck
theorem cs_dict : CallS X Wx (.type "dict") bDict := .of call_dictD fun σ b h ws vs Q S r q => by
  unfold bDict at q
  split at q
  · rename_i x
    obtain ⟨v, rfl, r1⟩ := rls1 r
    split at q
    · rename_i kvs ed
      obtain ⟨a, ps, rfl, rd, rk⟩ := S.dicW r1 ed
      refine ⟨_, ps, rfl, rd, fun p hp => ?_⟩
      obtain ⟨ex, S2, r2⟩ := S.pushD2 hp rk
      exact q _ _ ex S2 r2
    · exact q.elim
  · exact q.elim
def keyW : Key → W
  | .inl i => .int i
  | .inr x => .str x
theorem keys_rls {K : PySem.W.Frag} {b : Bs} {kvs : List (Key × W)} {ps : List (Key × V)} (r : Rlk K b kvs ps) : Rls K b (kvs.map fun (kv : Key × W) => keyW kv.1) (ps.map fun (kv : Key × V) => kV kv.1) := by
  refine Rlk.ind (p := fun (a : List (Key × W)) (c : List (Key × V)) => Rls K b (a.map fun (kv : Key × W) => keyW kv.1) (c.map fun (kv : Key × V) => kV kv.1)) .nil (fun k w v kvs ps r1 _ ih => .cons ?_ ih) r
  cases k with
  | inl i => exact .int i
  | inr x => exact .str x
/-- list(x): of a list, a tuple, a dict -/
def bList (ws : List W) (h : MH) : R W := match ws with
  | [.tup xs] => .ok (.ref h.length) (h ++ [.lst xs])
  | [x] => match lstW h x with
    | some xs => .ok (.ref h.length) (h ++ [.lst xs])
    | none => match dctW h x with
      | some kvs => .ok (.ref h.length) (h ++ [.lst (kvs.map fun kv => keyW kv.1)])
      | none => .stuck
  | _ => .stuck
theorem cs_list (hc : X.calm = true) : CallS X Wx (.type "list") bList := .of (callR_or call_list_of (call_listD hc)) fun σ b h ws vs Q S r q => by
  unfold bList at q
  split at q
  · rename_i xs
    cases r with
    | cons r1 rr => cases rr; cases r1 with
      | tup a _ us hs rr =>
        refine .inl ⟨a, us, rfl, .inr hs, fun p hp => ?_⟩
        obtain ⟨ex, S2, r2⟩ := S.pushL hp rr
        exact q _ _ ex S2 r2
  · rename_i x _
    obtain ⟨v, rfl, r1⟩ := rls1 r
    split at q
    · rename_i xs e
      obtain ⟨a, us, rfl, hs, rx⟩ := S.listW r1 e
      refine .inl ⟨_, us, rfl, .inl hs, fun p hp => ?_⟩
      obtain ⟨ex, S2, r2⟩ := S.pushL hp rx
      exact q _ _ ex S2 r2
    · split at q
      · rename_i kvs ed
        obtain ⟨a, ps, rfl, rd, rk⟩ := S.dicW r1 ed
        refine .inr ⟨_, ps, rfl, rd, fun p hp => ?_⟩
        obtain ⟨ex, S2, r2⟩ := S.pushL hp (keys_rls rk)
        exact q _ _ ex S2 r2
      · exact q.elim
  · exact q.elim
/-- tuple(x) of a list, a tuple -/
def bTupO (ws : List W) (h : MH) : R W := match ws with
  | [.tup xs] => .ok (.tup xs) h
  | [x] => match lstW h x with
    | some xs => .ok (.tup xs) h
    | none => .stuck
  | _ => .stuck
theorem cs_tuple : CallS X Wx (.type "tuple") bTupO := .of call_tuple_of fun σ b h ws vs Q S r q => by
  unfold bTupO at q
  split at q
  · rename_i xs
    cases r with
    | cons r1 rr => cases rr; cases r1 with
      | tup a _ us hs rr => exact ⟨a, us, rfl, .inr ⟨hs, q.here S (.tup a _ us hs rr)⟩⟩
  · rename_i x _
    obtain ⟨v, rfl, r1⟩ := rls1 r
    split at q
    · rename_i xs e
      obtain ⟨a, us, rfl, hs, rx⟩ := S.listW r1 e
      refine ⟨_, us, rfl, .inl ⟨hs, fun p hp => ?_⟩⟩
      have ex := Ext.also (K := X.K) (o := .tup us) hp
      exact q _ _ ex (S.also hp) (.tup p _ us (.inl (.inl upd_same)) (rx.ext ex))
    · exact q.elim
  · exact q.elim
end
end PM
/-! Sm22: sorted, == of dicts, list(range), defaults. -/
noncomputable section
namespace PM
open PySem PySem.Spec L2
open PyProof.Rows hiding St
/-! ### sorted -/
def srtI (l : List Int) : List Int := l.mergeSort fun a c => decide (a ≤ c)
theorem srtI_eq {l ys : List Int} (p : ys.Perm l) (s : ys.Pairwise (· ≤ ·)) : ys = srtI l := by
  have h1 : (srtI l).Pairwise (fun a c => decide (a ≤ c) = true) := List.pairwise_mergeSort (le := fun (a c : Int) => decide (a ≤ c)) (fun a b c h1 h2 => decide_eq_true (Int.le_trans (of_decide_eq_true h1) (of_decide_eq_true h2))) (fun a b => by
    rcases Int.le_total a b with h | h
    · simp [h]
    · simp [h]) l
  have h2 : (srtI l).Pairwise (· ≤ ·) := h1.imp fun h => of_decide_eq_true h
  exact List.Perm.eq_of_pairwise (fun a b _ _ h1 h2 => Int.le_antisymm h1 h2) s h2 (p.trans (List.mergeSort_perm l _).symm)
theorem srtI_perm (l : List Int) : (srtI l).Perm l := List.mergeSort_perm l _
def intsOf : List W → Option (List Int)
  | [] => some []
  | .int k :: r => (intsOf r).map (k :: ·)
  | _ => none
theorem intsOf_ok {K : PySem.W.Frag} {b : Bs} : ∀ {ws : List W} {vs : List V} {ks : List Int}, Rls K b ws vs → intsOf ws = some ks → vs = ks.map V.int
  | _, _, ns, .nil, e => by cases e; rfl
  | w :: ws, _, ns, .cons r1 rr, e => by
    cases r1 with
    | int n =>
      simp only [intsOf, Option.map_eq_some_iff] at e
      obtain ⟨ms, e, rfl⟩ := e
      rw [intsOf_ok rr e]; rfl
    | _ => cases e
theorem rls_strs {K : PySem.W.Frag} {b : Bs} : ∀ l : List Str, Rls K b (l.map W.str) (l.map V.str)
  | [] => .nil
  | i :: l => .cons (.str i) (rls_strs l)
/-- the keys of a dict, all of them integers -/
def intKeys (kvs : List (Key × W)) : Option (List Int) := intsOf (kvs.map fun kv => keyW kv.1)
theorem intKeys_ok {kvs : List (Key × W)} {ks : List Int} (e : intKeys kvs = some ks) : kvs.map (·.1) = ks.map Sum.inl := by
  unfold intKeys at e
  induction kvs generalizing ks with
  | nil => cases e; rfl
  | cons p r ih =>
    obtain ⟨k, w⟩ := p
    cases k with
    | inl i =>
      simp only [List.map_cons, keyW, intsOf, Option.map_eq_some_iff] at e
      obtain ⟨ms, e, rfl⟩ := e
      simp [ih e]
    | inr x => simp [keyW, intsOf] at e
section
variable {X : Cx} {Wx : WX}
/-- sorted(d), a dict of integers, of any size -/
theorem sorted_dictI (hcalm : X.calm = true) : CallR X (.builtin "sorted") (fun xs H Q => ∃ (a : Addr) (kvs : List (Key × V)) (ks : List Int), xs = [.ref a] ∧ Rd H a (.dK kvs) ∧ kvs.map (·.1) = ks.map Sum.inl ∧
    ∀ p : Addr, H p = none → Q (.ref p) (upd H p (.lst ((srtI ks).map V.int)))) := by
  intro pins s σ H xs us Q I r q
  obtain ⟨a, kvs, ks, ex, hd, hks, q⟩ := q
  subst ex
  obtain ⟨u, eu, rx⟩ := vals1 r
  subst eu
  cases rx
  obtain ⟨hz, lo, vs, rel, dd⟩ := dk_rd I.hok hd
  obtain ⟨ep, hat⟩ := dd.dictAt
  have hkeys := rel.keys.symm.trans hks
  have hl : vs.length = ks.length := by simpa using congrArg List.length hkeys
  have h16 : vs.length ≤ sizeLine := rel.length ▸ hz
  refine Calls.call_function_entry PyProof.Rows.kind_sorted PyProof.Rows.plain_sorted PyProof.Rows.entry_sorted (PyProof.Rows.args_sorted1 _) ?_
  unfold Builtin.«sorted»
  refine wpAny_bind (m := checkCount "sorted" 1 1 _) (wpAny_pure (wpAny_bind (PySem.W.kdu_collect (A := X.A.in1) (PySem.W.kdl_dict (knd := mixKind X.prog X.w) (kvs := vs) (ep := ep) lo) (I.ok.hd hcalm) hat h16 fun h1 t1 acc hk hacc => ?_)))
  have hal : acc.toList.length = ks.length := by rw [Array.length_toList, hacc.1]; exact hl
  have hS : IntsAre acc.toList ks := ints_each hal fun j v e => by
    obtain ⟨k, x, e1, e2⟩ := hacc.2 j v (by rw [← Array.getElem?_toList]; exact e)
    have e3 : (vs.map (·.1))[j]? = some k := by simp [e1]
    rw [hkeys, List.getElem?_map] at e3
    obtain ⟨y, e4, e5⟩ := Option.map_eq_some_iff.mp e3
    subst e5
    rcases keyIs_shape (show keyIs (Sum.inl y) v = true from e2) with ⟨i, t, ek, ev⟩ | ⟨z, t, ek, ev⟩
    · cases ek; exact ⟨y, t, e4, ev⟩
    · cases ek
  have I1 : Inv X pins σ H { s with heap := h1, toks := t1 } := I.kept hk
  have hz2 : acc.toList.length ≤ sizeLine := by omega
  refine wpAny_bind (wpAny_newList ?_ hz2)
  have hoL : (h1.push (seqObj "list" acc.toList.toArray 0)).get? h1.objs.size = some (seqObj "list" acc.toList.toArray 0) := Heap.get?_push_size _ rfl
  show wpAny _ _ _ _ _ { s with heap := h1.push (seqObj "list" acc.toList.toArray 0), toks := t1 }
  refine wpAny_bind (wpAny_holding (wpAny_call_entry PyProof.Rows.slot_list_sort ⟨_, hoL, rfl⟩ PyProof.Rows.entry_list_sort
    (SrtO.list_sort_ord (s := { s with heap := h1.push (seqObj "list" acc.toList.toArray 0), toks := t1 }) SrtO.swo_int hoL hz2 (fun h2 => SrtO.ints_sortable hS h2) fun out o1 o2 => ⟨.none, rfl, ?_⟩) (PyProof.Rows.args_list_sort _)))
  obtain ⟨k1, k2, k3⟩ := SrtO.ints_out hS o1 o2
  obtain ⟨e', he'⟩ := PyProof.Rows.sortedHeap_at (vs := acc.toList) (out := out.toArray) hoL
  have hys : out.map SrtO.iv = srtI ks := srtI_eq k2 k3
  rw [hys] at k1 k2
  have hlen : ((srtI ks).map V.int).length ≤ sizeLine := by rw [List.length_map, k2.length_eq]; omega
  refine wpAny_pure ⟨_, rfl, .ref h1.objs.size, upd H h1.objs.size (.lst ((srtI ks).map V.int)), I1.laid (t' := t1) (fun b u e => ?_) (Nat.le_refl _)
    (show ObjOk X.prog X.w _ _ _ (.lst _) from ⟨hlen, out, e', vals_of_ints k1, he'⟩), rfl, q _ (I1.hok.fresh (Nat.le_refl _))⟩
  have hb : b < h1.objs.size := Heap.lt_size e
  rw [PyProof.Rows.sortedHeap_old (Nat.ne_of_lt hb) (by rw [size_push']; exact Nat.lt_succ_of_lt hb)]
  exact Heap.get?_push_of_some _ e
/-- sorted(x): a list or a dict of integers -/
def bSrt (ws : List W) (h : MH) : R W := match ws with
  | [x] => match lstW h x with
    | some xs => match intsOf xs with
      | some ks => .ok (.ref h.length) (h ++ [.lst ((srtI ks).map W.int)])
      | none => .stuck
    | none => match dctW h x with
      | some kvs => match intKeys kvs with
        | some ks => .ok (.ref h.length) (h ++ [.lst ((srtI ks).map W.int)])
        | none => .stuck
      | none => .stuck
  | _ => .stuck
theorem cs_sorted (hc : X.calm = true) : CallS X Wx (.builtin "sorted") bSrt := .of (callR_or cr_sortedI (sorted_dictI hc)) fun σ b h ws vs Q S r q => by
  unfold bSrt at q
  split at q
  · rename_i x
    obtain ⟨v, rfl, r1⟩ := rls1 r
    split at q
    · rename_i xs e
      split at q
      · rename_i ks ek
        obtain ⟨a, us, rfl, hs, rx⟩ := S.listW r1 e
        have := intsOf_ok rx ek
        subst this
        refine .inl ⟨_, ks, rfl, hs, fun ys p h1 h2 hp => ?_⟩
        rw [srtI_eq h1 h2]
        obtain ⟨ex, S2, r2⟩ := S.pushL hp (rls_ints (srtI ks))
        exact q _ _ ex S2 r2
      · exact q.elim
    · split at q
      · rename_i kvs ed
        split at q
        · rename_i ks ek
          obtain ⟨a, ps, rfl, rd, rk⟩ := S.dicW r1 ed
          refine .inr ⟨_, ps, ks, rfl, rd, rk.1.trans (intKeys_ok ek), fun p hp => ?_⟩
          obtain ⟨ex, S2, r2⟩ := S.pushL hp (rls_ints (srtI ks))
          exact q _ _ ex S2 r2
        · exact q.elim
      · exact q.elim
  · exact q.elim
end
end PM
/-! Sm23: == of dicts, list(range), defaults. -/
noncomputable section
namespace PM
open PySem PySem.Spec L2
open PyProof.Rows hiding St
def flatD : W → Option PyData
  | .non => some .none
  | .bl k => some (.bool k)
  | .int i => some (.int i)
  | .str x => some (.str x)
  | _ => none
def hitsM (kws : List (Key × W)) : List (Key × W) → Option Bool
  | [] => some true
  | (k, w) :: r => match valM kws k with
    | none => some false
    | some y => (flatD w).bind fun d => (flatD y).bind fun e => (hitsM kws r).map fun b => PyData.eqv d e && b
theorem flatD_of {K : PySem.W.Frag} {b : Bs} {w : W} {v : V} {u : Value} {d : PyData} (e : flatD w = some d) (r : Rl K b w v) (rv : RelV v u) : PyProof.V.Flat u d := by
  cases r with
  | non => cases e; cases (show u = Value.none from rv); exact fun _ => .none
  | bl k => cases e; cases (show u = Value.bool k from rv); exact fun _ => .bool _
  | int i => cases e; obtain ⟨t, z⟩ := (show ∃ t, u = Value.int i t from rv); cases z; exact fun _ => .int _ _
  | str x => cases e; obtain ⟨t, z⟩ := (show ∃ t, u = Value.str x t from rv); cases z; exact fun _ => .str _ _
  | _ => cases e
theorem hits_of {K : PySem.W.Frag} {b : Bs} {A : Around} {s : Shared} {kws : List (Key × W)} {qs : List (Key × V)} {ys : List (Key × Value)} (rq : Rlk K b kws qs) (kq : KV qs ys) :
    ∀ {kvs : List (Key × W)} {ps : List (Key × V)} {xs : List (Key × Value)} {r : Bool}, Rlk K b kvs ps → KV ps xs → hitsM kws kvs = some r → PySem.W.KeqHits A s ys xs r
  | [], ps, xs, r, rp, kp, e => by
    rw [rp.inv_nil] at kp
    cases kp
    cases e
    exact .nil
  | (k, w) :: kvs, ps, xs, r, rp, kp, e => by
    obtain ⟨v, ps', rfl, r1, r2⟩ := rp.inv
    unfold hitsM at e
    have m := rq.val k
    have n := kq.val k
    cases xs with
    | nil => cases kp
    | cons x xs =>
      obtain ⟨k', u⟩ := x
      obtain ⟨⟨ek, rv⟩, kp'⟩ : (k = k' ∧ RelV v u) ∧ KV ps' xs := by cases kp with | cons h t => exact ⟨h, t⟩
      subst ek
      cases ev : valM kws k with
      | none =>
        rw [ev] at e m
        rw [m] at n
        cases e
        exact .miss (RelO.none_of n)
      | some y =>
        rw [ev] at e m
        obtain ⟨z, e1, r3⟩ := m
        rw [e1] at n
        obtain ⟨u', e2, rv'⟩ := RelO.some_of n
        obtain ⟨d, ed, e⟩ := Option.bind_eq_some_iff.mp e
        obtain ⟨e', ee, e⟩ := Option.bind_eq_some_iff.mp e
        obtain ⟨b', eb, e⟩ := Option.map_eq_some_iff.mp e
        subst e
        exact .hit e2 (PySem.W.keq_flat (flatD_of ed r1 rv) (flatD_of ee r3 rv')) (hits_of rq kq r2 kp' eb)
section
variable {X : Cx} {Wx : WX} {k : Nat}
/-- == of dicts -/
def bEqD (neg : Bool) : W → W → MH → R W := fun x y h => match dctW h x, dctW h y with
  | some kvs, some kws => if kvs.length = kws.length then match hitsM kws kvs with
      | some r => .ok (.bl (if neg then !r else r)) h
      | none => .stuck
    else .ok (.bl neg) h
  | _, _ => .stuck
theorem os_eqD (hr : Room k X.A) : OpS X Wx (compareOp .Eq) (bEqD false) := ⟨fun pins s σ b h x y x' y' v u Q I S r1 r2 rv ru q => by
  unfold bEqD at q
  split at q
  · rename_i kvs kws ei ej
    obtain ⟨ad, ps, rfl, rd, rp⟩ := S.dicW r1 ei
    obtain ⟨ae, qs, rfl, re, rq⟩ := S.dicW r2 ej
    cases rv; cases ru
    obtain ⟨z1, lo1, xs, kx, dx⟩ := dk_rd I.hok rd
    obtain ⟨z2, lo2, ys, ky, dy⟩ := dk_rd I.hok re
    have lx : xs.length = kvs.length := by rw [← kx.length, rp.len]
    have ly : ys.length = kws.length := by rw [← ky.length, rq.len]
    by_cases hl : kvs.length = kws.length
    · rw [if_pos hl] at q
      split at q
      · rename_i r er
        exact PySem.W.keq_eq (knd := mixKind X.prog X.w) (r := r) lo1 lo2 dx dy hr.units0 (fun _ => hits_of rq ky rp kx er) (fin_bl I (q.here S (.bl _)) (by simp [lx, ly, hl]))
      · exact q.elim
    · rw [if_neg hl] at q
      exact PySem.W.keq_eq (knd := mixKind X.prog X.w) (r := true) lo1 lo2 dx dy hr.units0 (fun z => absurd (by omega) hl) (fin_bl I (q.here S (.bl _)) (by simp [lx, ly, hl]))
  · exact q.elim⟩
theorem os_neD (hr : Room k X.A) : OpS X Wx (compareOp .NotEq) (bEqD true) := ⟨fun pins s σ b h x y x' y' v u Q I S r1 r2 rv ru q => by
  unfold bEqD at q
  split at q
  · rename_i kvs kws ei ej
    obtain ⟨ad, ps, rfl, rd, rp⟩ := S.dicW r1 ei
    obtain ⟨ae, qs, rfl, re, rq⟩ := S.dicW r2 ej
    cases rv; cases ru
    obtain ⟨z1, lo1, xs, kx, dx⟩ := dk_rd I.hok rd
    obtain ⟨z2, lo2, ys, ky, dy⟩ := dk_rd I.hok re
    have lx : xs.length = kvs.length := by rw [← kx.length, rp.len]
    have ly : ys.length = kws.length := by rw [← ky.length, rq.len]
    by_cases hl : kvs.length = kws.length
    · rw [if_pos hl] at q
      split at q
      · rename_i r er
        exact PySem.W.keq_ne (knd := mixKind X.prog X.w) (r := r) lo1 lo2 dx dy hr.units0 (fun _ => hits_of rq ky rp kx er) (fin_bl I (q.here S (.bl _)) (by simp [lx, ly, hl]))
      · exact q.elim
    · rw [if_neg hl] at q
      exact PySem.W.keq_ne (knd := mixKind X.prog X.w) (r := true) lo1 lo2 dx dy hr.units0 (fun z => absurd (by omega) hl) (fin_bl I (q.here S (.bl _)) (by simp [lx, ly, hl]))
  · exact q.elim⟩
end
end PM
/-! Sm24: loops over dicts; dict comprehensions. -/
noncomputable section
namespace PM
open PySem PySem.Spec L2
open PyProof.Rows hiding St
/-- values stay -/
structure Mv (K : PySem.W.Frag) (b c : Bs) : Prop where
  le : b.n ≤ c.n
  ix : ∀ i, i < b.n → c.at_ i = b.at_ i
  tp : ∀ a xs, SqT K b.H a xs → SqT K c.H a xs
  zz : ∀ a u, b.Z a = some u → c.Z a = some u
mutual
theorem Rl.mv {K : PySem.W.Frag} {b c : Bs} (x : Mv K b c) : ∀ {w : W} {v : V}, Rl K b w v → Rl K c w v
  | _, _, .non => .non
  | _, _, .bl k => .bl k
  | _, _, .int k => .int k
  | _, _, .str k => .str k
  | _, _, .ty k => .ty k
  | _, _, .ref i h => by
    rw [← x.ix i h]
    exact .ref i (Nat.lt_of_lt_of_le h x.le)
  | _, _, .glo y => .glo y
  | _, _, .tup a ws vs h r => .tup a ws vs (x.tp a vs h) (Rls.mv x r)
  | _, _, .vl a ws vs h r => .vl a ws vs (x.zz a _ h) (Rls.mv x r)
  | _, _, .vd a kvs ps h e r => .vd a kvs ps (x.zz a _ h) e (Rls.mv x r)
  | _, _, .vi a C fs dx ps h e r => .vi a C fs dx ps (x.zz a _ h) e (Rls.mv x r)
theorem Rls.mv {K : PySem.W.Frag} {b c : Bs} (x : Mv K b c) : ∀ {ws : List W} {vs : List V}, Rls K b ws vs → Rls K c ws vs
  | _, _, .nil => .nil
  | _, _, .cons h t => .cons (Rl.mv x h) (Rls.mv x t)
end
/-! ### a dict locked while a part runs -/
section
variable {K : PySem.W.Frag} {b c : Bs} {h : MH} {i : Nat} {kvs kws : List (Key × W)} {ps : List (Key × V)} {od : Obj}
theorem Sim.lock (S : Sim K b h) (e : h[i]? = some (.dct kvs)) (h1 : b.H (b.at_ i) = some (.dK ps)) (r : Rlk K b kvs ps) : PM.Ext K b (b.put i (.frz od (.dK ps))) ∧ Sim K (b.put i (.frz od (.dK ps))) (h.set i (.lck kvs)) := by
  have ex : PM.Ext K b (b.put i (.frz od (.dK ps))) := Ext.put (S.ob i _ e) rfl
  have hi : i < h.length := (List.getElem?_eq_some_iff.mp e).1
  have key : ∀ (k : Nat) (w : Ob), (h.set i (.lck kvs))[k]? = some w → w.mine = true → ∃ w' : Ob, h[k]? = some w' ∧ w'.mine = true := fun k (w : Ob) e2 hw => by
      by_cases hk : i = k
      · subst hk; exact ⟨_, e, rfl⟩
      · rw [List.getElem?_set_ne hk] at e2; exact ⟨w, e2, hw⟩
  refine ⟨ex, by rw [List.length_set, ← S.len]; rfl, fun j u ej => ?_, fun j k u u' ej ek hu hu' q => ?_, fun a u ea => zok_upd (S.zh a u ea) (by
    rintro rfl
    have ea : b.Z (b.at_ i) = some u := ea
    rw [S.zd i _ e rfl] at ea; cases ea), fun j u ej hm => let ⟨u1, e1, w1⟩ := key j u ej hm; S.zd j u1 e1 w1⟩
  · by_cases hj : i = j
    · subst hj
      rw [List.getElem?_set_self hi] at ej
      cases ej
      exact ⟨od, ps, upd_same, r.ext ex⟩
    · rw [List.getElem?_set_ne hj] at ej
      refine (S.ob j u ej).keep ex (S.lt ej) fun q hk hq => (upd_ne fun z => ?_).trans hq
      rw [z, h1] at hq
      rcases hk with hw | ⟨o2, z2, e2⟩
      · exact hj (S.inj i j _ u e ej rfl (Ob.mine_of hw) z.symm)
      · rw [e2] at hq; cases hq
  · skip
    obtain ⟨u1, e1, w1⟩ := key j u ej hu
    obtain ⟨u2, e2, w2⟩ := key k u' ek hu'
    exact S.inj j k u1 u2 e1 e2 w1 w2 q
theorem Sim.unlock (S : Sim K c h) (e : h[i]? = some (.lck kws)) (h1 : c.H (c.at_ i) = some (.frz od (.dK ps))) (r : Rlk K (c.put i (.dK ps)) kvs ps) (tp : ∀ a xs, SqT K c.H a xs → SqT K (upd c.H (c.at_ i) (.dK ps)) a xs) : Sim K (c.put i (.dK ps)) (h.set i (.dct kvs)) := by
  have hi : i < h.length := (List.getElem?_eq_some_iff.mp e).1
  have key : ∀ (k : Nat) (w : Ob), (h.set i (.dct kvs))[k]? = some w → w.mine = true → ∃ w' : Ob, h[k]? = some w' ∧ w'.mine = true := fun k (w : Ob) e2 hw => by
      by_cases hk : i = k
      · subst hk; exact ⟨_, e, rfl⟩
      · rw [List.getElem?_set_ne hk] at e2; exact ⟨w, e2, hw⟩
  refine ⟨by rw [List.length_set, ← S.len]; rfl, fun j u ej => ?_, fun j k u u' ej ek hu hu' q => ?_, fun a u ea => zok_upd (S.zh a u ea) (by
    rintro rfl
    have ea : c.Z (c.at_ i) = some u := ea
    rw [S.zd i _ e rfl] at ea; cases ea), fun j u ej hm => let ⟨u1, e1, w1⟩ := key j u ej hm; S.zd j u1 e1 w1⟩
  · by_cases hj : i = j
    · subst hj
      rw [List.getElem?_set_self hi] at ej
      cases ej
      exact ⟨ps, upd_same, r⟩
    · rw [List.getElem?_set_ne hj] at ej
      have mv : Mv K c (c.put i (.dK ps)) := ⟨Nat.le_refl _, fun _ _ => rfl, tp, fun _ _ h => h⟩
      have keepL : ∀ {ws : List W} {vs : List V}, Rls K c ws vs → Rls K (c.put i (.dK ps)) ws vs := fun {ws vs} q => q.mv mv
      have ne : ∀ {q : HO}, c.H (c.at_ j) = some q → u.mine = true ∨ (∀ o' u', q = .frz o' u' → ∃ ys, u' = .lst ys) → upd c.H (c.at_ i) (.dK ps) (c.at_ j) = some q := fun {q} hq hm => by
        rw [upd_ne]
        · exact hq
        · intro z
          rcases hm with hm | hm
          · exact hj (S.inj i j _ u e ej rfl hm z.symm)
          · rw [z, h1] at hq
            cases hq
            obtain ⟨ys, ey⟩ := hm _ _ rfl
            cases ey
      have o := S.ob j u ej
      cases u with
      | lst ws => obtain ⟨vs, h2, r2⟩ := o; exact ⟨vs, ne h2 (.inl rfl), keepL r2⟩
      | dct ks => obtain ⟨vs, h2, r2⟩ := o; exact ⟨vs, ne h2 (.inl rfl), r2.1, keepL r2.2⟩
      | ins C fs => obtain ⟨dx, vs, h2, r2⟩ := o; exact ⟨dx, vs, ne h2 (.inl rfl), r2.1, keepL r2.2⟩
      | lck ks => obtain ⟨o2, vs, h2, r2⟩ := o; exact ⟨o2, vs, ne h2 (.inl rfl), r2.1, keepL r2.2⟩
      | ro ws =>
        obtain ⟨vs, h2, r2⟩ := o
        refine ⟨vs, ?_, keepL r2⟩
        rcases h2 with ⟨o2, h2⟩ | h2
        · exact .inl ⟨o2, ne h2 (.inr fun o' u' z => by cases z; exact ⟨_, rfl⟩)⟩
        · exact .inr h2
  · skip
    obtain ⟨u1, e1, w1⟩ := key j u ej hu
    obtain ⟨u2, e2, w2⟩ := key k u' ek hu'
    exact S.inj j k u1 u2 e1 e2 w1 w2 q
end
/-- which dict is locked -/
abbrev Ch := MS → MH → Option Nat
def chE (m : EM) : Ch := fun σ h => match m σ h with
  | .ok (.ref i) _ => some i
  | _ => none
def unl (i : Nat) (kvs : List (Key × W)) (h : MH) (k : MH → RS) : RS := match h[i]? with
  | some (.lck _) => k (h.set i (.dct kvs))
  | _ => .stuck
def unlS (i : Nat) (kvs : List (Key × W)) : RS → RS
  | .nx σ h => unl i kvs h (.nx σ)
  | .rt w h => unl i kvs h (.rt w)
  | .bk σ h => unl i kvs h (.bk σ)
  | .ct σ h => unl i kvs h (.ct σ)
  | .exc x σ h => .exc x σ h
  | .stuck => .stuck
/-- the statement, the dict locked -/
def sLk (ch : Ch) (m : SM) : SM := fun σ h => match ch σ h with
  | some i => match h[i]? with
    | some (.dct kvs) => unlS i kvs (m σ (h.set i (.lck kvs)))
    | _ => m σ h
  | none => m σ h
def unlE (i : Nat) (kvs : List (Key × W)) : R W → R W
  | .ok w h => match h[i]? with
    | some (.lck _) => .ok w (h.set i (.dct kvs))
    | _ => .stuck
  | .exc x h => .exc x h
  | .stuck => .stuck
def eLk (ch : Ch) (m : EM) : EM := fun σ h => match ch σ h with
  | some i => match h[i]? with
    | some (.dct kvs) => unlE i kvs (m σ (h.set i (.lck kvs)))
    | _ => m σ h
  | none => m σ h
section
variable {X : Cx} {Wx : WX} {st : Stmt} {e : Expr} {m : SM} {me : EM} {ch : Ch}
theorem lock_go {K : PySem.W.Frag} {b c : Bs} {h g : MH} {i : Nat} {kvs kws : List (Key × W)} {ps : List (Key × V)} {od : Obj} (S : Sim K b h) (ei : h[i]? = some (.dct kvs)) (h1 : b.H (b.at_ i) = some (.dK ps)) (rk : Rlk K b kvs ps)
    (x : PM.Ext K (b.put i (.frz od (.dK ps))) c) (Sc : Sim K c g) (eg : g[i]? = some (.lck kws)) :
    c.H (b.at_ i) = some (.frz od (.dK ps)) ∧ c.at_ i = b.at_ i ∧ PM.Ext K b (c.put i (.dK ps)) ∧ Sim K (c.put i (.dK ps)) (g.set i (.dct kvs)) ∧ Mv K c (c.put i (.dK ps)) := by
  have ex0 : PM.Ext K b (b.put i (.frz od (.dK ps))) := Ext.put (S.ob i _ ei) rfl
  have hi : i < b.n := S.lt ei
  have eat : c.at_ i = b.at_ i := x.ix i hi
  have hf : c.H (b.at_ i) = some (.frz od (.dK ps)) := x.fz _ _ _ upd_same
  have hf' : c.H (c.at_ i) = some (.frz od (.dK ps)) := by rw [eat]; exact hf
  have tp : ∀ a xs, SqT K c.H a xs → SqT K (upd c.H (c.at_ i) (.dK ps)) a xs := fun a xs q => by
    rcases q with (q | ⟨o', q⟩) | q
    · exact .inl (.inl ((upd_ne fun z => by rw [z, hf'] at q; cases q).trans q))
    · exact .inl (.inr ⟨o', (upd_ne fun z => by rw [z, hf'] at q; cases q).trans q⟩)
    · exact .inr q
  have mv : Mv K c (c.put i (.dK ps)) := ⟨Nat.le_refl _, fun _ _ => rfl, tp, fun _ _ h => h⟩
  have ex : PM.Ext K b (c.put i (.dK ps)) := ⟨Nat.le_trans ex0.le x.le, fun j hj => (x.ix j hj).trans (ex0.ix j hj), fun a xs q => tp a xs (x.tp a xs (ex0.tp a xs q)), fun a o u q => by
    have ne : a ≠ c.at_ i := fun z => by rw [z, eat, h1] at q; cases q
    exact (upd_ne ne).trans (x.fz a o u (ex0.fz a o u q)), fun a u q => x.zz a u (ex0.zz a u q)⟩
  exact ⟨hf, eat, ex, Sc.unlock eg hf' (rk.ext ex) tp, mv⟩
theorem SlM.mv {K : PySem.W.Frag} {b c : Bs} {m : MS} {σ : L2.St} (s : SlM K b m σ) (x : Mv K b c) : SlM K c m σ := ⟨s.len, fun i w e => let ⟨v, h, r⟩ := s.at_ i w e; ⟨v, h, r.mv x⟩⟩
theorem ss_lock (a : SS X Wx st m) : SS X Wx st (sLk ch m) := ⟨⟨fun pins s σ H D I q => by
  obtain ⟨b, h, σm, rfl, S, l, q⟩ := q
  unfold sLk at q
  have plain : PostS X.K Wx b D (m σm h) → wpAny (model X.prog X.w) X.A (exec st X.env) (SP X pins D) X.xe s := fun q => a.ps.run pins s σ b.H D I ⟨b, h, σm, rfl, S, l, q⟩
  split at q
  · rename_i i _
    split at q
    · rename_i kvs ei
      obtain ⟨ps, h1, rk, _⟩ := S.dict ei
      refine (ps_lock a.ps).run pins s σ b.H D I ⟨b.at_ i, .dK ps, h1, True.intro, fun od => ?_⟩
      obtain ⟨ex, S1⟩ := S.lock (od := od) ei h1 rk
      refine ⟨b.put i (.frz od (.dK ps)), h.set i (.lck kvs), σm, rfl, S1, l.ext ex, ?_⟩
      cases er : m σm (h.set i (.lck kvs)) with
      | stuck => rw [er] at q; exact q.elim
      | exc x σ' g => rw [er] at q; exact fun c σ2 d2 x2 s2 l2 => q c σ2 d2 (ex.trans x2) s2 l2
      | nx σ' g =>
        rw [er] at q
        unfold unlS unl at q
        dsimp only at q
        split at q
        · rename_i kws eg
          intro c σ2 x2 s2 l2
          obtain ⟨f1, f2, f3, f4, f5⟩ := lock_go S ei h1 rk x2 s2 eg
          exact ⟨f1, by rw [← f2]; exact q _ _ f3 f4 (l2.mv f5)⟩
        · exact q.elim
      | bk σ' g =>
        rw [er] at q
        unfold unlS unl at q
        dsimp only at q
        split at q
        · rename_i kws eg
          intro c σ2 x2 s2 l2
          obtain ⟨f1, f2, f3, f4, f5⟩ := lock_go S ei h1 rk x2 s2 eg
          exact ⟨f1, by rw [← f2]; exact q _ _ f3 f4 (l2.mv f5)⟩
        · exact q.elim
      | ct σ' g =>
        rw [er] at q
        unfold unlS unl at q
        dsimp only at q
        split at q
        · rename_i kws eg
          intro c σ2 x2 s2 l2
          obtain ⟨f1, f2, f3, f4, f5⟩ := lock_go S ei h1 rk x2 s2 eg
          exact ⟨f1, by rw [← f2]; exact q _ _ f3 f4 (l2.mv f5)⟩
        · exact q.elim
      | rt w g =>
        rw [er] at q
        unfold unlS unl at q
        dsimp only at q
        split at q
        · rename_i kws eg
          intro c v x2 s2 r2
          obtain ⟨f1, f2, f3, f4, f5⟩ := lock_go S ei h1 rk x2 s2 eg
          exact ⟨f1, by rw [← f2]; exact q _ _ f3 f4 (r2.mv f5)⟩
        · exact q.elim
    · exact plain q
  · exact plain q⟩⟩
theorem se_lock (a : SE X Wx e me) : SE X Wx e (eLk ch me) := ⟨⟨fun pins s σ H Q I q => by
  obtain ⟨b, h, σm, rfl, S, l, q⟩ := q
  unfold eLk at q
  have plain : Post X.K (Rl X.K) (fun c d H' => Wx c d σ H') b Q (me σm h) → wpAny (model X.prog X.w) X.A (eval e X.env) (EP X pins σ Q) X.xe s := fun q => a.pe.run pins s σ b.H Q I ⟨b, h, σm, rfl, S, l, q⟩
  split at q
  · rename_i i _
    split at q
    · rename_i kvs ei
      obtain ⟨ps, h1, rk, _⟩ := S.dict ei
      refine (pe_lock a.pe).run pins s σ b.H Q I ⟨b.at_ i, .dK ps, h1, True.intro, fun od => ?_⟩
      obtain ⟨ex, S1⟩ := S.lock (od := od) ei h1 rk
      refine ⟨b.put i (.frz od (.dK ps)), h.set i (.lck kvs), σm, rfl, S1, l.ext ex, ?_⟩
      cases er : me σm (h.set i (.lck kvs)) with
      | stuck => rw [er] at q; exact q.elim
      | exc x g => rw [er] at q; exact fun c d2 x2 s2 => q c d2 (ex.trans x2) s2
      | ok w g =>
        rw [er] at q
        unfold unlE at q
        dsimp only at q
        split at q
        · rename_i kws eg
          intro c v x2 s2 r2
          obtain ⟨f1, f2, f3, f4, f5⟩ := lock_go S ei h1 rk x2 s2 eg
          exact ⟨f1, by rw [← f2]; exact q _ _ f3 f4 (r2.mv f5)⟩
        · exact q.elim
    · exact plain q
  · exact plain q⟩⟩
end
end PM
/-! Sm25: iterators over dicts; dict comprehensions. -/
noncomputable section
namespace PM
open PySem PySem.Spec L2
open PyProof.Rows hiding St
def itK (kvs : List (Key × W)) : MI := ⟨kvs.length, fun k _ => some (kvs[k]?.map fun kv => keyW kv.1)⟩
def itV (kvs : List (Key × W)) : MI := ⟨kvs.length, fun k _ => some (kvs[k]?.map fun kv => kv.2)⟩
def itI (kvs : List (Key × W)) : MI := ⟨kvs.length, fun k _ => some (kvs[k]?.map fun kv => .tup [keyW kv.1, kv.2])⟩
section
variable {K : PySem.W.Frag} {c : Bs} {kvs : List (Key × W)} {ps : List (Key × V)} {o : Obj} {d : Addr}
theorem Rlk.get {b : Bs} (r : Rlk K b kvs ps) {k : Nat} {p : Key × W} (e : kvs[k]? = some p) : ∃ v, ps[k]? = some (p.1, v) ∧ Rl K b p.2 v := by
  obtain ⟨h1, h2⟩ := r
  obtain ⟨v, hv, rv⟩ := h2.get (i := k) (w := p.2) (by rw [List.getElem?_map, e]; rfl)
  rw [List.getElem?_map] at hv
  obtain ⟨⟨k', v'⟩, e1, e2⟩ := Option.map_eq_some_iff.mp hv
  have h3 := congrArg (fun l : List Key => l[k]?) h1
  simp only [List.getElem?_map, e, e1, Option.map_some] at h3
  cases e2
  exact ⟨_, by rw [e1, Option.some.inj h3], rv⟩
theorem keyW_rl {b : Bs} (k : Key) : Rl K b (keyW k) (kV k) := by
  cases k with
  | inl i => exact .int i
  | inr x => exact .str x
theorem itK_ok (h1 : c.H d = some (.frz o (.dK ps))) (r : Rlk K c kvs ps) : ItS K c (itK kvs) (Itk d o ps) := by
  intro b h k x s
  unfold itK
  dsimp only
  have hz := x.fz _ _ _ h1
  cases e : kvs[k]? with
  | none => exact ⟨hz, by rw [r.len]; exact List.getElem?_eq_none_iff.mp e⟩
  | some p =>
    obtain ⟨v, e1, _⟩ := r.get e
    refine ⟨⟨hz, (List.getElem?_eq_some_iff.mp e1).1⟩, fun z H' ⟨e2, k', v', e3, e4⟩ => ⟨b, e2.symm, .refl, s, ?_⟩⟩
    rw [e1] at e3; cases e3; subst e4
    exact keyW_rl _
theorem itV_ok (h1 : c.H d = some (.frz o (.dK ps))) (r : Rlk K c kvs ps) : ItS K c (itV kvs) (Itd d o ps) := by
  intro b h k x s
  unfold itV
  dsimp only
  have hz := x.fz _ _ _ h1
  cases e : kvs[k]? with
  | none => exact ⟨hz, by rw [r.len]; exact List.getElem?_eq_none_iff.mp e⟩
  | some p =>
    obtain ⟨v, e1, rv⟩ := r.get e
    refine ⟨⟨hz, (List.getElem?_eq_some_iff.mp e1).1⟩, fun z H' ⟨e2, k', e3⟩ => ⟨b, e2.symm, .refl, s, ?_⟩⟩
    rw [e1] at e3; cases e3
    exact rv.ext x
theorem itI_ok (h1 : c.H d = some (.frz o (.dK ps))) (r : Rlk K c kvs ps) : ItS K c (itI kvs) (Iti d o ps) := by
  intro b h k x s
  unfold itI
  dsimp only
  have hz := x.fz _ _ _ h1
  cases e : kvs[k]? with
  | none => exact ⟨hz, by rw [r.len]; exact List.getElem?_eq_none_iff.mp e⟩
  | some p =>
    obtain ⟨v, e1, rv⟩ := r.get e
    refine ⟨⟨hz, (List.getElem?_eq_some_iff.mp e1).1⟩, fun z H' ⟨T, k', v', e3, e4, hT, eH⟩ => ?_⟩
    rw [e1] at e3; cases e3; subst e4 eH
    have ex := Ext.also (K := K) (o := .tup [kV p.1, v]) hT
    exact ⟨_, rfl, ex, s.also hT, .tup T _ _ (.inl (.inl upd_same)) (.cons (keyW_rl _) (.cons ((rv.ext x).ext ex) .nil))⟩
end
def lckAt (h : MH) (i : Nat) : Option (List (Key × W)) := match h[i]? with
  | some (.lck kvs) => some kvs
  | _ => none
theorem Sim.lck {K : PySem.W.Frag} {b : Bs} {h : MH} (S : Sim K b h) {i : Nat} {kvs : List (Key × W)} (e : lckAt h i = some kvs) : ∃ o ps, b.H (b.at_ i) = some (.frz o (.dK ps)) ∧ Rlk K b kvs ps := by
  unfold lckAt at e
  split at e
  · rename_i k q; cases e; exact S.ob _ _ q
  · cases e
def onLck (f : List (Key × W) → MI) (w : W) (h : MH) : R MI := match w with
  | .ref i => match lckAt h i with
    | some kvs => .ok (f kvs) h
    | none => .stuck
  | .vd kvs => .ok (f kvs) h
  | _ => .stuck
/-- what an expression hands back: a dict, locked from now on -/
def tLkd (t : TE) : TE := fun σ H Q => t σ H fun x H1 => Q x H1 ∨ ∃ a ps, x = .ref a ∧ H1 a = some (.dK ps) ∧ ∀ o, Q x (upd H1 a (.frz o (.dK ps)))
theorem pe_lkd {X : Cx} {e : Expr} {t : TE} (h : PE X e t) : PE X e (tLkd t) := ⟨fun pins s σ H Q I q => wpAny_mono (h.run pins s σ H _ I q) (fun u s' ⟨x, H1, I1, r, q1⟩ => by
  rcases q1 with q1 | ⟨a, ps, rfl, h1, q1⟩
  · exact ⟨x, H1, I1, r, q1⟩
  · obtain ⟨o, I2⟩ := I1.lock h1 True.intro
    exact ⟨.ref a, _, I2, r, q1 o⟩) fun _ _ z => z⟩
theorem Sim.zlock {K : PySem.W.Frag} {b : Bs} {h : MH} (S : Sim K b h) {a : Addr} {o : Obj} {ps : List (Key × V)} (z : b.Z a = some (.dK ps)) (h1 : b.H a = some (.dK ps)) : PM.Ext K b ⟨b.at_, b.n, upd b.H a (.frz o (.dK ps)), b.Z⟩ ∧ Sim K ⟨b.at_, b.n, upd b.H a (.frz o (.dK ps)), b.Z⟩ h := by
  have ex : PM.Ext K b ⟨b.at_, b.n, upd b.H a (.frz o (.dK ps)), b.Z⟩ := ⟨Nat.le_refl _, fun _ _ => rfl, fun c xs q => sqT_upd q fun q e => (by rw [h1] at e; cases e; exact ⟨fun _ => by simp, fun _ _ => by simp⟩), fun c o' u q => (upd_ne fun y => by
    rw [y, h1] at q; cases q).trans q, fun _ _ q => q⟩
  refine ⟨ex, S.len, fun i u e => (S.ob i u e).keep ex (S.lt e) fun q hk hq => ?_, S.inj, fun c u e => ?_, S.zd⟩
  · rcases hk with hk | ⟨o', z', hk⟩
    · refine (upd_ne fun y => ?_).trans hq
      rw [← y, S.zd i u e (Ob.mine_of hk)] at z
      cases z
    · subst hk
      refine (upd_ne fun y => ?_).trans hq
      rw [y, h1] at hq; cases hq
  · by_cases y : c = a
    · subst y
      rw [z] at e
      cases e
      exact .inr ⟨o, upd_same⟩
    · exact zok_upd (S.zh c u e) y
def iDct (f : List (Key × W) → MI) (m : EM) : MS → MH → R MI := fun σ h => (m σ h).bind (onLck f)
section
variable {X : Cx} {Wx : WX} {tg e : Expr} {me : EM} {apos cpos : Pos}
theorem onLck_read {f : List (Key × W) → MI} {J : Addr → Obj → List (Key × V) → It} (hf : ∀ (c : Bs) kvs ps o d, c.H d = some (.frz o (.dK ps)) → Rlk X.K c kvs ps → ItS X.K c (f kvs) (J d o ps)) {σ : L2.St} {H : Hp} {R : It → Hp → Prop} (q : iSim X.K Wx (iDct f me) σ H R) :
    tLkd (tSim X.K Wx me) σ H fun x H1 => ∃ d o kvs, x = .ref d ∧ H1 d = some (.frz o (.dK kvs)) ∧ R (J d o kvs) H1 := by
  obtain ⟨b, h, σm, eH, S, l, q⟩ := q
  refine ⟨b, h, σm, eH, S, l, (Post.bind (rel := Rl X.K) q).mono fun x H1 ⟨c, w, g, e, x2, s, r, p⟩ => ?_⟩
  subst e
  unfold onLck at p
  cases r with
  | ref i hi =>
    dsimp only at p
    split at p
    · rename_i kvs ek
      obtain ⟨o, ps, h1, rk⟩ := s.lck ek
      exact .inl ⟨_, o, ps, rfl, h1, p.here s (hf c kvs ps o _ h1 rk)⟩
    · exact p.elim
  | vd a kvs ps z e1 e2 =>
    rcases (show Rd c.H a (.dK ps) from s.zh a _ z) with h1 | ⟨o, h1⟩
    · refine .inr ⟨a, ps, rfl, h1, fun o => ⟨a, o, ps, rfl, upd_same, ?_⟩⟩
      obtain ⟨ex, s2⟩ := s.zlock (o := o) z h1
      exact p _ _ ex s2 (hf _ kvs ps o a upd_same ⟨e1, e2.ext ex⟩)
    · exact .inl ⟨a, o, ps, rfl, h1, p.here s (hf c kvs ps o a h1 ⟨e1, e2⟩)⟩
  | _ => exact p.elim
theorem si_items {elts : List Expr} {kk : Nat} {tpos : Pos} (he : SE X Wx e me) (hbase : attributeBase e "items" X.env (eval e X.env) = eval e X.env := by rfl) (hline : (apos.endLine == cpos.line) = true := by rfl) :
    SI X Wx (.Tuple elts kk tpos) (.Call (.Attribute e "items" apos) [] [] cpos) (iDct itI me) := ⟨pi_imp (pi_items (pe_lkd he.pe) hbase hline) fun σ H R q => onLck_read (J := Iti) (fun c kvs ps o d h r => itI_ok h r) q⟩
theorem si_values (he : SE X Wx e me) (hbase : attributeBase e "values" X.env (eval e X.env) = eval e X.env := by rfl) (hline : (apos.endLine == cpos.line) = true := by rfl) : SI X Wx tg (.Call (.Attribute e "values" apos) [] [] cpos) (iDct itV me) :=
  ⟨pi_imp (pi_values (pe_lkd he.pe) hbase hline) fun σ H R q => onLck_read (J := Itd) (fun c kvs ps o d h r => itV_ok h r) q⟩
theorem si_keys (he : SE X Wx e me) : SI X Wx tg e (iDct itK me) := ⟨pi_imp (pi_keys (pe_lkd he.pe)) fun σ H R q => by
  obtain ⟨b, h, σm, eH, S, l, q⟩ := onLck_read (J := Itk) (fun c kvs ps o d h r => itK_ok h r) q
  refine ⟨b, h, σm, eH, S, l, q.mono fun x H1 q => ?_⟩
  rcases q with ⟨d, o, kvs, ex, h1, r⟩ | ⟨a, ps, ea, h1, q⟩
  · exact .inl ⟨d, o, ex, .inl ⟨kvs, h1, r⟩⟩
  · exact .inr ⟨a, ps, ea, h1, fun o => let ⟨d, o', kvs, ex, h1, r⟩ := q o; ⟨d, o', ex, .inl ⟨kvs, h1, r⟩⟩⟩⟩
/-- over a thing of any kind: a list, a tuple, a text, a dict's keys -/
def iterA (w : W) (h : MH) : R MI := match w with
  | .ref i => match lckAt h i with
    | some kvs => .ok (itK kvs) h
    | none => iterW (.ref i) h
  | .vd kvs => .ok (itK kvs) h
  | w => iterW w h
def iAny (m : EM) : MS → MH → R MI := fun σ h => (m σ h).bind iterA
theorem si_any (he : SE X Wx e me) : SI X Wx tg e (iAny me) := by
  refine ⟨⟨fun pins s σ H R I q => ?_⟩⟩
  obtain ⟨b, h, σm, eH, S, l, q⟩ := q
  have alt : (iAny me σm h = iDct itK me σm h) ∨ (iAny me σm h = iVal me σm h) := by
    unfold iAny iDct iVal
    cases em : me σm h with
    | stuck => exact .inl rfl
    | exc x g => exact .inl rfl
    | ok w g =>
      show iterA w g = onLck itK w g ∨ iterA w g = iterW w g
      unfold iterA onLck
      cases w with
      | ref i =>
        dsimp only
        cases lckAt g i with
        | some kvs => exact .inl rfl
        | none => exact .inr rfl
      | vd kvs => exact .inl rfl
      | _ => exact .inr rfl
  rcases alt with z | z
  · exact (si_keys he).pi.run pins s σ H R I ⟨b, h, σm, eH, S, l, by rw [← z]; exact q⟩
  · exact (si_val he).pi.run pins s σ H R I ⟨b, h, σm, eH, S, l, by rw [← z]; exact q⟩
end
end PM
/-! Sm26: dict comprehensions. -/
noncomputable section
namespace PM
open PySem PySem.Spec L2
open PyProof.Rows hiding St
def dcGo (mi : MI) (g : GM) (t : TM) (ek e : EM) (σ : MS) (j : Nat) : Nat → Nat → MH → R W
  | 0, i, h => match mi.nx i h with
    | some none => .ok (.ref j) h
    | _ => .stuck
  | f + 1, i, h => match mi.nx i h with
    | some none => .ok (.ref j) h
    | none => .stuck
    | some (some w) => match g w σ h with
      | none => .stuck
      | some σ1 => ((t σ1 h).nox).bind fun k h1 => if k = true then
          ((ek σ1 h1).nox).bind fun yk h2 => ((e σ1 h2).nox).bind fun y h3 => match h3[j]? with
            | some (.dct kvs) => match keyOf yk with
              | some k => if kvs.length < sizeLine then dcGo mi g t ek e σ j f (i + 1) (h3.set j (.dct (putM kvs k y))) else .stuck
              | none => .stuck
            | _ => .stuck
        else dcGo mi g t ek e σ j f (i + 1) h1
def eDc (it : MS → MH → R MI) (vs : List Nat) (g : GM) (t : TM) (mk m : EM) : EM := fun σ h => (it σ h).bind fun mi h1 => dcGo mi g t mk m (wipeM σ vs) h1.length mi.fuel 0 (h1 ++ [.dct []])
section
variable {X : Cx} {Wx : WX} {pos : Pos} {a c e tg iter : Expr} {ma mc me : EM} {n : AM}
theorem dc_read {K : PySem.W.Frag} {Wx : WX} {it : MS → MH → R MI} {vs : List Nat} {g : GM} {t : TM} {mk m : EM} {σ : L2.St} {H : Hp} {Q : VK} (q : tSim K Wx (eDc it vs g t mk m) σ H Q) :
    tDc (iSim K Wx it) (gSim K vs g) (tSimT K W0 t) (tSim K W0 mk) (tSim K W0 m) vs σ H Q := by
  obtain ⟨b, h, σm, e, S, l, q⟩ := q
  refine ⟨b, h, σm, e, S, l, (Post.bind (rel := ItS K) q).mono fun J H1 ⟨c, mi, g1, e, x, s, r, p⟩ D hD => ?_⟩
  subst e
  obtain ⟨xD, sD, rD⟩ := s.pushD (kvs := []) (ps := []) hD .nil
  have hj : g1.length = c.n := s.len.symm
  refine ⟨fun i f H => ∃ (b : Bs) (h : MH), b.H = H ∧ Ext K (c.push D (.dK [])) b ∧ Sim K b h ∧ SlM K b (wipeM σm vs) (wipe σ vs) ∧ Post K (Rl K) (fun c d H' => Wx c d σ H') b Q (dcGo mi g t mk m (wipeM σm vs) g1.length f i h), ⟨mi.fuel, c.push D (.dK []), _, rfl, .refl, sD, (((l.ext x).ext xD).wipe vs), Post.ext p xD⟩, ?_⟩
  rintro i f H ⟨b, h, rfl, x2, s2, l2, p⟩
  have ri := r b h i (xD.trans x2) s2
  have atD : b.at_ g1.length = D := by
    rw [x2.ix g1.length (by rw [hj]; exact Nat.lt_succ_self _), hj]
    exact Bs.push_at _ _ _
  have rj : Rl K b (.ref g1.length) (.ref D) := by
    have := Rl.ref (K := K) (b := b) g1.length (Nat.lt_of_lt_of_le (by rw [hj]; exact Nat.lt_succ_self _) x2.le)
    rw [atD] at this
    exact this
  cases f with
  | zero =>
    unfold dcGo at p
    cases em : mi.nx i h with
    | none => rw [em] at p; exact p.elim
    | some ow =>
      cases ow with
      | none => rw [em] at p ri; exact .inl ⟨ri, p.here s2 rj⟩
      | some w => rw [em] at p; exact p.elim
  | succ f =>
    unfold dcGo at p
    cases em : mi.nx i h with
    | none => rw [em] at p; exact p.elim
    | some ow =>
      cases ow with
      | none => rw [em] at p ri; exact .inl ⟨ri, p.here s2 rj⟩
      | some w =>
        rw [em] at p ri
        dsimp only at p ri
        cases eg : g w (wipeM σm vs) h with
        | none => rw [eg] at p; exact p.elim
        | some σ1 =>
          rw [eg] at p
          dsimp only at p
          refine .inr ⟨ri.1, fun H' => ∃ (b : Bs) (h : MH), b.H = H' ∧ Ext K (c.push D (.dK [])) b ∧ Sim K b h ∧ SlM K b (wipeM σm vs) (wipe σ vs) ∧ Post K (Rl K) (fun c d H' => Wx c d σ H') b Q (dcGo mi g t mk m (wipeM σm vs) g1.length f (i + 1) h), fun H' z => ⟨f, Nat.lt_succ_self _, z⟩, fun v H' y => ?_⟩
          obtain ⟨c1, e1, x1, s1, r1⟩ := ri.2 v H' y
          refine ⟨c1, h, _, w, e1, s1, l2.ext x1, r1, ?_⟩
          rw [eg]
          refine fun c3 σ3 x3 s3 l3 o3 => ⟨?_, c3, h, σ1, rfl, s3, l3, ?_⟩
          · rw [o3.wipe]
            have : Off vs σ (wipe σ vs) := ⟨wipe_length _ _, fun j hj => by rw [wipe_get, if_neg hj]⟩
            rw [this.wipe]
          refine (Post.bindN (rel := rEqB) (Post.ext p (x1.trans x3))).mono fun k H4 ⟨c4, k', g4, e4, x4, s4, r4, p4⟩ => ?_
          subst e4; subst r4
          have l4 : SlM K c4 (wipeM σm vs) (wipe σ vs) := ((l2.ext x1).ext x3).ext x4
          have x04 : Ext K (c.push D (.dK [])) c4 := x2.trans (x1.trans (x3.trans x4))
          cases k' with
          | false =>
            rw [if_neg Bool.false_ne_true] at p4 ⊢
            exact ⟨c4, g4, rfl, x04, s4, l4, p4⟩
          | true =>
            rw [if_pos rfl] at p4 ⊢
            refine ⟨c4, g4, σ1, rfl, s4, l3.ext x4, (Post.bindN (rel := Rl K) p4).mono fun yk H6 ⟨c6, kw, g6, e6, x6, s6, r6, p6⟩ => ?_⟩
            subst e6
            refine ⟨c6, g6, σ1, rfl, s6, (l3.ext x4).ext x6, (Post.bindN (rel := Rl K) p6).mono fun y H5 ⟨c5, yw, g5, e5, x5, s5, r5, p5⟩ => ?_⟩
            subst e5
            cases ea : g5[g1.length]? with
            | none => rw [ea] at p5; exact p5.elim
            | some ob =>
              rw [ea] at p5
              cases ob with
              | dct kvs =>
                cases ek : keyOf kw with
                | none => rw [ek] at p5; exact p5.elim
                | some k =>
                  rw [ek] at p5
                  dsimp only at p5
                  by_cases hz : kvs.length < sizeLine
                  · rw [if_pos hz] at p5
                    obtain ⟨ps, h6, rk6, _⟩ := s5.dict ea
                    have at5 : c5.at_ g1.length = D := by
                      rw [(x3.trans (x4.trans (x6.trans x5))).ix _ (Nat.lt_of_lt_of_le (Nat.lt_of_lt_of_le (by rw [hj]; exact Nat.lt_succ_self _) x2.le) x1.le), x1.ix _ (Nat.lt_of_lt_of_le (by rw [hj]; exact Nat.lt_succ_self _) x2.le), atD]
                    rw [at5] at h6
                    obtain ⟨x7, s7⟩ := s5.putD (kvs' := putM kvs k yw) (ps := putK ps k y) ea (rk6.put k r5)
                    refine ⟨ps, k, keyOf_ok ek r6, h6, by rw [rk6.len]; exact hz, c5.put g1.length (.dK (putK ps k y)), _, ?_, x04.trans (x6.trans (x5.trans x7)), s7, ((l4.ext x6).ext x5).ext x7, Post.ext p5 x7⟩
                    show upd c5.H (c5.at_ g1.length) _ = _
                    rw [at5]
                  · rw [if_neg hz] at p5; exact p5.elim
              | _ => exact p5.elim
theorem se_dc {ifs : List Expr} {scope : Scope} {own : List (Str × Nat)} {it : MS → MH → R MI} {g : GM} {t : TM} {mk m : EM} {kx vx : Expr} (hc : X.calm = true) (hN : X.N.Nodup) (hi : SI X Wx tg iter it) (Lk : LcP X tg kx ifs scope own g t mk) (L : LcP X tg vx ifs scope own g t m)
    (hs : ∀ x, foldedSetIterable iter X.env x = pure x := by intro _; rfl) : SE X Wx (.DictComp kx vx [⟨tg, iter, ifs, 0⟩] scope pos) (eDc it (own.map (·.2)) g t mk m) :=
  ⟨pe_imp (pe_dc (g := gSim X.K (own.map (·.2)) g) (tt := tSimT X.K W0 t) (tk := tSim X.K W0 mk) (tv := tSim X.K W0 m) hc hN hi.pi L.ok (fun s H C cl fp => (L.g s H C cl fp).pg) (fun s H C cl fp => (L.t s H C cl fp).pts) (fun s H C cl fp => (Lk.e s H C cl fp).pe) (fun s H C cl fp => (L.e s H C cl fp).pe) hs) fun σ H Q q => dc_read q⟩
end
end PM
/-! Sm27: list(range), defaults. -/
noncomputable section
namespace PM
open PySem PySem.Spec L2
open PyProof.Rows hiding St
section
variable {X : Cx} {Wx : WX} {a e : Expr} {ma me : EM} {p q pos pos2 : Pos}
def rgW (i j : Int) : List W := (List.range (j - i).toNat).map fun (k : Nat) => W.int (i + k)
theorem rg_rls {K : PySem.W.Frag} {b : Bs} (i j : Int) : Rls K b (rgW i j) (rgV i j) := by
  unfold rgW rgV
  generalize List.range (j - i).toNat = l
  induction l with
  | nil => exact .nil
  | cons k l ih => exact .cons (.int _) ih
def rgOk (i j : Int) : Bool := @decide (-(2 ^ 62) ≤ i ∧ i < 2 ^ 62 ∧ -(2 ^ 62) ≤ j ∧ j < 2 ^ 62 ∧ (j - i).toNat ≤ 2 ^ 24) (Classical.propDecidable _)
theorem rgOk_ok {i j : Int} (h : rgOk i j = true) : RgOk i j := by
  have q := @of_decide_eq_true _ (Classical.propDecidable _) h
  exact q
/-- list(range(a)) -/
def eLRg1 (ma : EM) : EM := fun σ h => (ma σ h).bind fun x g => match x with
  | .int n => if rgOk 0 n = true then .ok (.ref g.length) (g ++ [.lst (rgW 0 n)]) else .stuck
  | _ => .stuck
theorem se_listRg1 (hc : X.calm = true) (hgl : Gl X "list") (hml : X.mg "list" = none) (hg : Gl X "range") (hm : X.mg "range" = none) (ha : SE X Wx a ma) (na : starEach [a] X.env = (false, eval a X.env) :: starEach [] X.env := by rfl)
    (nb : starEach [.Call (.Name "range" p) [a] [] pos] X.env = (false, eval (.Call (.Name "range" p) [a] [] pos) X.env) :: starEach [] X.env := by rfl) :
    SE X Wx (.Call (.Name "list" q) [.Call (.Name "range" p) [a] [] pos] [] pos2) (eLRg1 ma) := by
  refine ⟨pe_imp (pe_listRg hc hgl hml (prg_1 hg hm ha.pe na) nb) fun σ H Q ⟨b, h, σm, eH, S, l, q⟩ => ?_⟩
  refine ⟨b, h, σm, eH, S, l, (Post.bind (rel := Rl X.K) q).mono fun x' H1 ⟨c1, x, h1, eH, E1, S1, r1, q1⟩ => ?_⟩
  subst eH
  cases r1 with
  | int n =>
    dsimp only at q1
    by_cases hz : rgOk 0 n = true
    case neg => rw [if_neg hz] at q1; exact q1.elim
    rw [if_pos hz] at q1
    refine ⟨n, rfl, rgOk_ok hz, fun p hp => ?_⟩
    obtain ⟨ex, S2, r2⟩ := S1.pushL hp (rg_rls 0 n)
    exact q1 _ _ ex S2 r2
  | _ => exact q1.elim
def eLRg2 (ma me : EM) : EM := fun σ h => (ma σ h).bind fun x g => (me σ g).bind fun y g2 => match x, y with
  | .int i, .int n => if rgOk i n = true then .ok (.ref g2.length) (g2 ++ [.lst (rgW i n)]) else .stuck
  | _, _ => .stuck
theorem se_listRg2 (hc : X.calm = true) (hgl : Gl X "list") (hml : X.mg "list" = none) (hg : Gl X "range") (hm : X.mg "range" = none) (ha : SE X Wx a ma) (hb : SE X Wx e me) (na : starEach [a, e] X.env = (false, eval a X.env) :: starEach [e] X.env := by rfl)
    (na2 : starEach [e] X.env = (false, eval e X.env) :: starEach [] X.env := by rfl) (hp : (backTo pos (starEach [e] X.env)).any (·.1) = false := by rfl) (nb : starEach [.Call (.Name "range" p) [a, e] [] pos] X.env = (false, eval (.Call (.Name "range" p) [a, e] [] pos) X.env) :: starEach [] X.env := by rfl) :
    SE X Wx (.Call (.Name "list" q) [.Call (.Name "range" p) [a, e] [] pos] [] pos2) (eLRg2 ma me) := by
  refine ⟨pe_imp (pe_listRg hc hgl hml (prg_2 hg hm ha.pe hb.pe na na2 hp) nb) fun σ H Q ⟨b, h, σm, eH, S, l, q⟩ => ?_⟩
  refine ⟨b, h, σm, eH, S, l, (Post.bind (rel := Rl X.K) q).mono fun x' H1 ⟨c1, x, h1, eH, E1, S1, r1, q1⟩ => ?_⟩
  subst eH
  refine ⟨c1, h1, σm, rfl, S1, l.ext E1, (Post.bind (rel := Rl X.K) q1).mono fun y' H2 ⟨c2, y, h2, eH, E2, S2, r2, q2⟩ => ?_⟩
  subst eH
  cases r1 with
  | int i => cases r2 with
    | int n =>
      dsimp only at q2
      by_cases hz : rgOk i n = true
      case neg => rw [if_neg hz] at q2; exact q2.elim
      rw [if_pos hz] at q2
      refine ⟨i, n, rfl, rfl, rgOk_ok hz, fun p hp => ?_⟩
      obtain ⟨ex, S3, r3⟩ := S2.pushL hp (rg_rls i n)
      exact q2 _ _ ex S3 r3
    | _ => exact q2.elim
  | _ => cases r2 <;> exact q2.elim
end
/-! ### defaults: the values by place, out of the positional ones, the keywords', the defaults -/
section
variable {K : PySem.W.Frag} {x qual : Str} {params : Arguments} {body : List Stmt} {scope : Scope} {dvs : List V} {kws : List (Str × V)} {f : Addr} {fd : FuncData} {ps ks : List Str}
theorem kbD_pos (F : FunD K x qual params body scope dvs kws f fd) (np : Nat) (p : List Nat) (dw : List W) (hd : dvs ≠ []) (hdw : ∀ b, Rls K b dw dvs)
    (h : ∀ (T : Addr) (kV doc pm : Value) (an : Option Addr) (cdv ct : Value) (us its ws : List Value), us.length = np → its.length = dvs.length → ws.length = ks.length →
      ∃ k, bindArgs (PySem.W.fnOf x qual params body scope (.ref T) kV doc pm an cdv ct) ⟨us, ks.zip ws⟩ = seqItems? (.ref T) >>= k ∧ k (some its.toArray) = pure (ps.zip (gPerm p (us ++ ws) its))) :
    ∃ g gV, KbG K fd ps ks np g gV (fun us ws => gPerm p (us ++ ws) dw) := by
  obtain ⟨oc, od, dV, kV, doc, pm, an, cdv, ct, osl, rfl, lk, hcd, hD, hK⟩ := F.ex
  rcases hD with ⟨e, _⟩ | ⟨_, T, o, its, m, rfl, lT, oT, rT⟩
  · exact absurd e hd
  · refine ⟨fun us ws => gPerm p (us ++ ws) its, fun vs zs => gPerm p (vs ++ zs) dvs, fun s us ws X l1 l2 _ => ?_, fun r1 r2 => perm_vals (r1.append r2) rT, fun r1 r2 => perm_rls (r1.append r2) (hdw _)⟩
    obtain ⟨k, e1, e2⟩ := h T kV doc pm an cdv ct us its ws l1 rT.length.symm l2
    refine BindsTo.of_looks fun M => ?_
    rw [e1]
    exact looks_items X lT oT (.of_pure e2)
/-- keyword-only defaults alone; ms: those that lack -/
theorem kbD_kwo (F : FunD K x qual params body scope [] kws f fd) (np : Nat) (p : List Nat) (ms : List (Str × V)) (dw : List W) (hk : kws ≠ []) (hms : ∀ q ∈ ms, q ∈ kws) (hdw : ∀ b, Rls K b dw (ms.map (·.2)))
    (h : ∀ (D : Addr) (doc pm : Value) (an : Option Addr) (cdv ct : Value) (us mv ws : List Value), us.length = np → mv.length = ms.length → ws.length = ks.length →
      KwChain D ((ms.map (·.1)).zip mv) (bindArgs (PySem.W.fnOf x qual params body scope .none (.ref D) doc pm an cdv ct) ⟨us, ks.zip ws⟩) (ps.zip (gPerm p (us ++ ws) mv))) :
    ∃ g gV, KbG K fd ps ks np g gV (fun us ws => gPerm p (us ++ ws) dw) := by
  obtain ⟨oc, od, dV, kV, doc, pm, an, cdv, ct, osl, rfl, lk, hcd, hD, hK⟩ := F.ex
  rcases hD with ⟨_, rfl⟩ | ⟨e, _⟩
  · rcases hK with e | ⟨D, rfl, hq⟩
    · exact absurd e hk
    · obtain ⟨mv, hl, rk, hks⟩ := kwd_vals (ms := ms) fun q hm => hq q (hms q hm)
      exact ⟨fun us ws => gPerm p (us ++ ws) mv, fun vs zs => gPerm p (vs ++ zs) (ms.map (·.2)), fun s us ws X l1 l2 _ => BindsTo.of_looks fun M => KwChain.looks X hks (h D doc pm an cdv ct us mv ws l1 hl l2),
        fun r1 r2 => perm_vals (r1.append r2) rk, fun r1 r2 => perm_rls (r1.append r2) (hdw _)⟩
  · exact absurd rfl e
/-- no default is wanted (there may be some) -/
theorem kbD_both (F : FunD K x qual params body scope dvs kws f fd) (np : Nat) (p : List Nat) (ms : List (Str × V)) (dw : List W) (hd : dvs ≠ []) (hk : kws ≠ []) (hms : ∀ q ∈ ms, q ∈ kws) (hdw : ∀ b, Rls K b dw (dvs ++ ms.map (·.2)))
    (h : ∀ (T D : Addr) (doc pm : Value) (an : Option Addr) (cdv ct : Value) (us its mv ws : List Value), us.length = np → its.length = dvs.length → mv.length = ms.length → ws.length = ks.length →
      ∃ k, bindArgs (PySem.W.fnOf x qual params body scope (.ref T) (.ref D) doc pm an cdv ct) ⟨us, ks.zip ws⟩ = seqItems? (.ref T) >>= k ∧ KwChain D ((ms.map (·.1)).zip mv) (k (some its.toArray)) (ps.zip (gPerm p (us ++ ws) (its ++ mv)))) :
    ∃ g gV, KbG K fd ps ks np g gV (fun us ws => gPerm p (us ++ ws) dw) := by
  obtain ⟨oc, od, dV, kV, doc, pm, an, cdv, ct, osl, rfl, lk, hcd, hD, hK⟩ := F.ex
  rcases hD with ⟨e, _⟩ | ⟨_, T, o, its, m, rfl, lT, oT, rT⟩
  · exact absurd e hd
  · rcases hK with e | ⟨D, rfl, hq⟩
    · exact absurd e hk
    · obtain ⟨mv, hl, rk, hks⟩ := kwd_vals (ms := ms) fun q hm => hq q (hms q hm)
      refine ⟨fun us ws => gPerm p (us ++ ws) (its ++ mv), fun vs zs => gPerm p (vs ++ zs) (dvs ++ ms.map (·.2)), fun s us ws X l1 l2 _ => ?_, fun r1 r2 => perm_vals (r1.append r2) (rT.append rk), fun r1 r2 => perm_rls (r1.append r2) (hdw _)⟩
      obtain ⟨k, e1, e2⟩ := h T D doc pm an cdv ct us its mv ws l1 rT.length.symm hl l2
      refine BindsTo.of_looks fun M => ?_
      rw [e1]
      exact looks_items X lT oT (KwChain.looks X hks e2)
end
end PM
/-! Sm28: {**a, **b}. -/
noncomputable section
namespace PM
open PySem PySem.Spec L2
open PyProof.Rows hiding St
section
variable {prog : Program} {w : World} {K : Type} [DecidableEq K] {knd : KeyKind prog w K} {A : Around} {E : Value → Shared → Prop} {s : Shared} {d : Addr} {kvs : List (K × Value)}
/-- an entry laid by a display -/
theorem put_pairs {k : K} {key v : Value} {Q : Unit → Shared → Prop} (hk : knd.is k key = true) (hm : s.heap.DictOf knd d kvs) (hz : kvs.length ≤ sizeLine)
    (h : ∀ g, g.DictOf knd d (stored kvs k v) → Heap.SameBut d s.heap g → Q () { s with heap := g }) : wpAny (model prog w) A (dictPut d (knd.hash k) key v) Q E s := by
  obtain ⟨o, es, ep, ho, hc, hd, hks, hp, hn⟩ := hm
  have hes : es.size ≤ sizeLine := by
    have := hp.length
    rw [Array.length_toList] at this
    omega
  unfold dictPut
  refine wpAny_bind (wpAny_dictFind_of hk ho hd hks ?_)
  have ix : (es.findIdx? fun u => knd.is k u.key) = kvs.findIdx? fun kv => decide (kv.1 = k) := by
    rw [← hp.findIdx k]
    obtain ⟨l⟩ := es
    simp
  cases hi : es.findIdx? fun u => knd.is k u.key with
  | some i =>
    refine wpAny_updateDict ho hd (h _ ⟨_, _, ep, Heap.get?_update_self _ ho (Obj.isFreed_of_dict (Obj.data_mapDict hd _)), hc.mapDict _, Obj.data_mapDict hd _, hks.modify _ _, ?_, ?_⟩ (Heap.SameBut.update ..))
    all_goals rw [stored, if_pos (any_of_findIdx_some (ix ▸ hi))]
    · have li : (es.toList.findIdx? fun u => knd.is k u.key) = some i := by
        rw [← hi]
        obtain ⟨l⟩ := es
        simp
      have q := hp.modify hn li v
      obtain ⟨l⟩ := es
      simpa using q
    · rw [keys_map_store]; exact hn
  | none =>
    have no : k ∉ kvs.map (·.1) := not_mem_of_findIdx_none (ix ▸ hi)
    have na : ¬ (kvs.any fun kv => decide (kv.1 = k)) = true := fun z => by
      obtain ⟨kv, h1, h2⟩ := List.any_eq_true.mp z
      exact no (List.mem_map.mpr ⟨kv, h1, of_decide_eq_true h2⟩)
    refine wpAny_updateDictKeys (hz := hes) ho hd (h _ ⟨_, _, ep + 1, Heap.get?_update_self _ ho (Obj.isFreed_of_dict (Obj.data_mapDictKeys hd _)), hc.mapDictKeys _, Obj.data_mapDictKeys hd _, hks.push hk _, ?_, ?_⟩ (Heap.SameBut.update ..))
    all_goals rw [stored, if_neg na]
    · have q := hp.append hk (knd.hash k) v
      obtain ⟨l⟩ := es
      simpa using q
    · rw [List.map_append, List.nodup_append]
      refine ⟨hn, by simp, fun a ha c hc => ?_⟩
      rw [List.map_singleton, List.mem_singleton] at hc
      have hc : c = k := hc
      exact fun z => no (hc ▸ z ▸ ha)
/-- **m, m a dict of plain keys -/
theorem merge_map {o : Addr} {more : List (K × Value)} {Q : Unit → Shared → Prop} (ne : d ≠ o) (lo : (o == sysModules) = false) (hd : s.heap.DictOf knd d kvs) (ho : s.heap.DictOf knd o more) (hpl : ∀ k a, knd.is k (.ref a) = false) (hz : kvs.length + more.length ≤ sizeLine)
    (h : ∀ g, g.DictOf knd d (merged kvs more) → Heap.SameBut d s.heap g → Q () { s with heap := g }) : wpAny (model prog w) A (mergeMapping d (.ref o) false) Q E s := by
  obtain ⟨od, esd, epd, hod, hcd, hdd, hkd, hpd, hnd⟩ := id hd
  obtain ⟨oo, eso, epo, hoo, hco, hdo, hko, hpo, hno⟩ := id ho
  unfold mergeMapping
  have ln : more.length = eso.size := by rw [← hpo.length, Array.length_toList]
  have loop : ∀ (body : Nat → PUnit → Sem (ForInStep PUnit)),
      (∀ (i : Nat) (hi : i < eso.size) (g : Heap) (R : ForInStep PUnit → Shared → Prop), g.DictOf knd d (merged kvs (more.take i)) → g.get? o = some oo →
        (∀ g', g'.DictOf knd d (merged kvs (more.take (i + 1))) → g'.get? o = some oo → Heap.SameBut d g g' → R (.yield ⟨⟩) { s with heap := g' }) → wpAny (model prog w) A (body i ⟨⟩) R E { s with heap := g }) →
      wpAny (model prog w) A (forIn (List.range eso.size) PUnit.unit body) (fun _ s' => ∃ g, s' = { s with heap := g } ∧ g.DictOf knd d (merged kvs more) ∧ Heap.SameBut d s.heap g) E s := by
    intro body hb
    refine wpAny_forIn_list _ (fun rest _ s' => ∃ g i, s' = { s with heap := g } ∧ rest = (List.range eso.size).drop i ∧ i ≤ eso.size ∧ g.DictOf knd d (merged kvs (more.take i)) ∧ g.get? o = some oo ∧ Heap.SameBut d s.heap g) _ ?_ ?_ _ _
      ⟨s.heap, 0, rfl, rfl, Nat.zero_le _, by simpa [merged] using hd, hoo, Heap.SameBut.refl _ _⟩
    · rintro x rest u s' ⟨g, i, rfl, hr, hi, hg, ho', hs⟩
      have lt : i < eso.size := by
        rcases Nat.lt_or_ge i eso.size with z | z
        · exact z
        · rw [List.drop_eq_nil_of_le (by simpa using z)] at hr; cases hr
      rw [List.drop_eq_getElem_cons (by simpa using lt)] at hr
      injection hr with e1 e2
      rw [List.getElem_range] at e1
      subst e1
      refine hb x lt g _ hg ho' fun g' h1 h2 h3 => ⟨g', x + 1, rfl, e2, lt, h1, h2, hs.trans h3⟩
    · rintro u s' ⟨g, i, rfl, hr, hi, hg, ho', hs⟩
      have e : i = eso.size := by
        rcases Nat.lt_or_ge i eso.size with z | z
        · rw [List.drop_eq_getElem_cons (by simpa using z)] at hr; cases hr
        · omega
      rw [e, ← ln, List.take_length] at hg
      exact ⟨g, rfl, hg, hs⟩
  refine wpAny_bind (m := isInstance (.ref o) (.type "dict")) (wpAny_isInstance ho.typeIs isSubtype_dict_dict ?_)
  simp only [if_true]
  refine wpAny_bind (wpAny_specialOf ho.typeIs F.slot_dict_iter.lookup ?_)
  refine wpAny_bind (wpAny_pure ?_)
  simp only [beq_self_eq_true]
  rw [if_neg (by rw [lo]; exact Bool.false_ne_true)]
  have main : wpAny (model prog w) A (do
      let l ← dictEntries o
      let epoch ← dictEpoch o
      forIn (List.range l.size) PUnit.unit fun i (_ : PUnit) => (do
          let l2 ← dictEntries o
          match l2[i]? with
            | some e => do
              holding [e.key, e.val] (dictPut d e.hash e.key e.val)
              let ep2 ← dictEpoch o
              if (ep2 != epoch) = true then do
                  (unsupported "dict.changed-during-merge" : Sem PUnit)
                  pure (ForInStep.yield PUnit.unit)
                else pure (ForInStep.yield PUnit.unit)
            | _ => do
              (unsupported "dict.changed-during-merge" : Sem PUnit)
              pure (ForInStep.yield PUnit.unit) : Sem (ForInStep PUnit))
      pure ()) Q E s := by
    refine wpAny_bind (wpAny_dictEntries hoo hdo ?_)
    refine wpAny_bind (wpAny_dictEpoch hoo hdo ?_)
    refine wpAny_bind (wpAny_mono (loop _ fun i hi g R hg ho' hR => ?_) (fun _ s' ⟨g, e1, h1, h2⟩ => by subst e1; exact wpAny_pure (h g h1 h2)) fun _ _ z => z)
    refine wpAny_bind (wpAny_dictEntries ho' hdo ?_)
    rw [Array.getElem?_eq_getElem hi]
    obtain ⟨⟨k, v⟩, hkv⟩ : ∃ kv, more[i]? = some kv := ⟨more[i]'(by rw [ln]; exact hi), List.getElem?_eq_getElem _⟩
    obtain ⟨q1, q2⟩ := hpo.get? (e := eso[i]) (by simp [hi]) hkv
    obtain ⟨k', q3, q4⟩ := hko eso[i] (Array.getElem_mem hi)
    obtain rfl : k' = k := knd.inj _ _ _ q3 q1
    dsimp only
    rw [q4, q2]
    have lz : (merged kvs (more.take i)).length ≤ sizeLine := by
      have e1 := merged_length_le kvs (more.take i)
      have e2 : (more.take i).length ≤ more.length := by rw [List.length_take]; omega
      omega
    refine wpAny_bind (wpAny_holding (put_pairs q1 hg lz fun g' h1 h2 => ?_))
    have ho2 : g'.get? o = some oo := (h2.2 o (Ne.symm ne)).trans ho'
    refine wpAny_bind (wpAny_dictEpoch ho2 hdo ?_)
    rw [if_neg (by simp)]
    exact wpAny_pure (hR g' (by rw [merged_take_succ kvs more i (k', v) hkv]; exact h1) ho2 h2)
  refine wpAny_bind (wpAny_dictEntries hod hdd ?_)
  split
  · refine wpAny_bind (wpAny_dictEntries hoo hdo ?_)
    refine wpAny_bind (wpAny_mono (Q := fun _ s' => s' = s) ?_ (fun _ s' e => by subst e; exact main) fun _ _ z => z)
    rw [← Array.forIn_toList]
    refine wpAny_forIn_list _ (fun rest _ s' => s' = s ∧ ∀ e ∈ rest, e ∈ eso.toList) _ ?_ (fun _ _ z => z.1) _ _ ⟨rfl, fun e he => he⟩
    rintro x rest u s' ⟨rfl, hx⟩
    obtain ⟨k', q3, _⟩ := hko x (Array.mem_toList_iff.mp (hx x List.mem_cons_self))
    cases ek : x.key with
    | ref a => rw [ek, hpl] at q3; cases q3
    | _ => exact wpAny_pure ⟨rfl, fun e he => hx e (List.mem_cons_of_mem _ he)⟩
  · exact main
end
section
variable {X : Cx} {Wx : WX} {a c : Expr} {ma mc : EM} {pos : Pos}
/-- {**a, **b} -/
def eMrg (ma mc : EM) : EM := fun σ h => (ma σ (h ++ [.dct []])).bind fun x h1 => match h1[h.length]?, dctW h1 x with
  | some (.dct kvs), some more => if sameR h.length x = false ∧ kvs.length + more.length ≤ sizeLine then
      (mc σ (h1.set h.length (.dct (mergeM kvs more)))).bind fun y h2 => match h2[h.length]?, dctW h2 y with
        | some (.dct kws), some mors => if sameR h.length y = false ∧ kws.length + mors.length ≤ sizeLine then .ok (.ref h.length) (h2.set h.length (.dct (mergeM kws mors))) else .stuck
        | _, _ => .stuck
      else .stuck
  | _, _ => .stuck
theorem mixNoRef {P : Program} {w : World} : ∀ (k : Key) (a : Addr), (mixKind P w).is k (.ref a) = false := fun k a => by
  cases k <;> rfl
theorem mrg_at {pins : List (Addr × Obj)} {σ : L2.St} {b : Bs} {h : MH} {s : Shared} {i : Nat} {wx : W} {aj : Addr} {kvs more : List (Key × W)} {Q : Unit → Shared → Prop} {E : Value → Shared → Prop} (I : Inv X pins σ b.H s) (S : Sim X.K b h) (ei : h[i]? = some (.dct kvs)) (rx : Rl X.K b wx (.ref aj)) (ej : dctW h wx = some more) (ne : sameR i wx = false) (hz : kvs.length + more.length ≤ sizeLine)
    (q : ∀ c s', PM.Ext X.K b c → Sim X.K c (h.set i (.dct (mergeM kvs more))) → Inv X pins σ c.H s' → Q () s') : wpAny (model X.prog X.w) X.A (mergeMapping (b.at_ i) (.ref aj) false) Q E s := by
  obtain ⟨ps, h1, rk, _⟩ := S.dict ei
  have na : b.at_ i ≠ aj := S.ne_dic ei rx ej (by rw [ne]; exact Bool.false_ne_true)
  obtain ⟨aj', qs, ea, h2, rl⟩ := S.dicW rx ej
  cases ea
  obtain ⟨z1, lo1, xs, kx, dx⟩ := dk_of I.hok h1
  obtain ⟨z2, lo2, ys, ky, dy⟩ := dk_rd I.hok h2
  obtain ⟨ex, S2⟩ := S.putD ei (rl.merge rk)
  have hl : xs.length + ys.length ≤ sizeLine := by rw [← kx.length, ← ky.length, rk.len, rl.len]; exact hz
  refine merge_map (knd := mixKind X.prog X.w) na lo2 dx dy mixNoRef hl fun g dg hs => ?_
  have he : ∃ q, g.get? (b.at_ i) = some q := let ⟨q, _, _, hq, _⟩ := dg; ⟨q, hq⟩
  have hm : (mergeK ps qs).length ≤ sizeLine := by
    have := length_mergeK qs ps
    have := rk.len
    have := rl.len
    omega
  exact q _ _ ex S2 (d_write (t' := s.toks) I (by rw [h1]; exact True.intro) hs he (dk_new hm lo1 (KV_merged kx ky) dg))
theorem wrapped' {M : Model} {A : Around} {E : Value → Shared → Prop} {s : Shared} {m : Sem Unit} {l : List Value} {f g k : Value → Sem Unit} {Q : Unit → Shared → Prop} (h : wpAny M A m Q (fun _ _ => False) s) : wpAny M A ((((holding l m).onRaise f).tryCatch g).onRaise k) Q E s := by
  refine wpAny_onRaise (wpAny_tryCatch (wpAny_onRaise (wpAny_mono (wpAny_holding h) (fun _ _ z => z) fun _ _ z => z.elim)))
theorem se_mrg (ha : SE X Wx a ma) (hc : SE X Wx c mc) : SE X Wx (.Dict [none, none] [a, c] pos) (eMrg ma mc) := by
  refine ⟨⟨fun pins s σ H Q I q => ?_⟩⟩
  obtain ⟨b, h, σm, rfl, S, l, q⟩ := q
  rw [arm_eval_Dict]
  refine wpAny_bind (wpAny_standAt ?_)
  show wpAny _ _ (dictDisplay [(none, do let x ← eval a X.env; standAt pos; pure x), (none, do let x ← eval c X.env; standAt pos; pure x)]) _ _ _
  unfold dictDisplay
  simp only [List.forIn_cons, List.forIn_nil, List.isEmpty_nil, if_true]
  refine wpAny_bind (wpAny_bind (wpAny_bind (wpAny_pure ?_)))
  refine wpAny_bind (wpAny_alloc ?_)
  have hp : b.H s.heap.objs.size = none := I.fresh
  obtain ⟨ex, S1, r1⟩ := S.pushD2 hp (kvs := []) (ps := []) .nil
  have I1 : Inv X pins σ (upd b.H s.heap.objs.size (.dK [])) { s with heap := s.heap.push { cls := .type "dict", data := .dict #[] } } := I.laid (t' := s.toks) (fun _ _ q => Heap.get?_push_of_some _ q) (Nat.le_refl _) (dk_empty s.heap I.big)
  refine wpAny_bind (wpAny_holding (wpAny_bind (wpAny_mono (ha.run I1 S1 (l.ext ex) (Post.bind (rel := Rl X.K) (Post.ext q ex))) (fun u s2 ⟨x, H1, I2, rx, c1, wx, h1, e1, E1, S2, rw, q1⟩ => ?_) fun _ _ z => z)))
  subst e1
  have atn : ∀ {c2 : Bs}, PM.Ext X.K (b.push s.heap.objs.size (.dK [])) c2 → c2.at_ h.length = s.heap.objs.size := fun {c2} x => by
    have hl : h.length = b.n := S.len.symm
    rw [x.ix h.length (by rw [hl]; exact Nat.lt_succ_self _), hl]
    exact Bs.push_at _ _ _
  refine wpAny_bind (wpAny_standAt (wpAny_pure ?_))
  split at q1
  · rename_i kvs more ei ej
    by_cases hz : sameR h.length wx = false ∧ kvs.length + more.length ≤ sizeLine
    case neg => rw [if_neg hz] at q1; exact q1.elim
    rw [if_pos hz] at q1
    obtain ⟨ax, _, rfl, _⟩ := S2.dicW rw ej
    cases rx
    refine wpAny_bind (wrapped' ?_)
    rw [← atn E1]
    refine mrg_at I2 S2 ei rw ej hz.1 hz.2 fun c2 s3 E2 S3 I3 => ?_
    refine wpAny_pure (wpAny_bind (wpAny_bind (wpAny_pure (wpAny_bind (wpAny_pure ?_)))))
    have l2 := (l.ext ex).ext (E1.trans E2)
    refine wpAny_bind (wpAny_holding (wpAny_bind (wpAny_mono (hc.run I3 S3 l2 (Post.bind (rel := Rl X.K) (Post.ext q1 E2))) (fun u s4 ⟨y, H2, I4, ry, c3, wy, h2, e2, E3, S4, rw2, q2⟩ => ?_) fun _ _ z => z)))
    subst e2
    refine wpAny_bind (wpAny_standAt (wpAny_pure ?_))
    split at q2
    · rename_i kws mors ek em
      by_cases hy : sameR h.length wy = false ∧ kws.length + mors.length ≤ sizeLine
      case neg => rw [if_neg hy] at q2; exact q2.elim
      rw [if_pos hy] at q2
      obtain ⟨ay, _, rfl, _⟩ := S4.dicW rw2 em
      cases ry
      have E13 := E1.trans (E2.trans E3)
      refine wpAny_bind (wrapped' ?_)
      rw [atn E1, ← atn E13]
      refine mrg_at I4 S4 ek rw2 em hy.1 hy.2 fun c4 s5 E4 S5 I5 => ?_
      refine wpAny_pure (wpAny_pure (wpAny_bind (wpAny_pure (wpAny_pure ?_))))
      have r5 : Rl X.K c4 (.ref h.length) (.ref (c3.at_ h.length)) := by
        have r0 := (r1.ext E13).ext E4
        rw [atn E13]
        exact r0
      exact ⟨.ref (c3.at_ h.length), c4.H, I5, rfl, q2 _ _ E4 S5 r5⟩
    · exact q2.elim
  · exact q1.elim
end
end PM
/-! Sm29: what the head tells: facts of the text, defs at any address. -/
noncomputable section
namespace PM
open PySem PySem.Spec L2
open PyProof.Rows hiding St
theorem DefA.funD {K : PySem.W.Frag} {d : DefA} (e : seenF K (d.ad K) = d.tells) (c : d.good K = true) : ∃ fd, FunD K d.name d.qual d.params d.body d.scope (d.dvs K) (d.kws K) (d.ad K) fd := by
  obtain ⟨c1, kp⟩ := Bool.and_eq_true_iff.mp c
  unfold seenF at e
  unfold DefA.tells at e
  cases q : K.lookup (d.ad K) with
  | none => rw [q] at e; cases e
  | some o =>
    obtain ⟨oc, od, dt, osl⟩ := o
    rw [q] at c1 e
    cases dt with
    | func u =>
      obtain ⟨z1, z2, z3, z4, z5, z6, z7, z8, z9, z10, z11, z12, z13, z14, z15⟩ := u
      simp only [Option.some.injEq, Prod.mk.injEq] at e
      obtain ⟨rfl, rfl, rfl, rfl, rfl, rfl, rfl, rfl⟩ := e
      obtain ⟨k1, k2⟩ := Bool.and_eq_true_iff.mp c1
      obtain ⟨k3, k4⟩ := Bool.and_eq_true_iff.mp k2
      exact ⟨_, ⟨oc, od, z8, z9, z10, z11, z12, z13, z14, osl, rfl, q, k4, He.dflB_ok k1, He.kwdB_ok k3⟩, kp⟩
    | _ => cases e
section
variable {ex : PySem.W.Frag → Bool} {fn : List DefA} {K : PySem.W.Frag}
theorem SaysA.fact (c : SaysA ex fn K) : ex K = true := (Bool.and_eq_true_iff.mp (show (ex K && fn.all fun d => d.good K) = true from congrArg (fun z : AlA => z.1) c)).1
theorem SaysA.def_ (c : SaysA ex fn K) (i : Nat) {d : DefA} (h : fn[i]? = some d := by rfl) : ∃ fd, FunD K d.name d.qual d.params d.body d.scope (d.dvs K) (d.kws K) (d.ad K) fd := by
  have c2 := (Bool.and_eq_true_iff.mp (show (ex K && fn.all fun d => d.good K) = true from congrArg (fun z : AlA => z.1) c)).2
  have e : fn.map (fun d => seenF K (d.ad K)) = fn.map DefA.tells := congrArg (fun z : AlA => z.2) c
  have e2 := congrArg (fun l : List He.FnW => l[i]?) e
  simp only [List.getElem?_map, h, Option.map_some] at e2
  exact DefA.funD (Option.some.inj e2) (List.all_eq_true.mp c2 d (List.mem_of_getElem? h))
end
/-! ### facts -/
theorem propB_ok {K : PySem.W.Frag} {C f : Str} (h : propB K C f = true) : PropOf K (He.ga K C) f (adP C f K) (adGet C f K) := by
  unfold propB at h
  simp only [Bool.and_eq_true, decide_eq_true_eq] at h
  obtain ⟨h1, h2, h3, h4⟩ := h
  refine ⟨He.eqO_ok h1, He.eqO_ok h2, h3, ?_⟩
  unfold adGet
  split at h4
  · rename_i g r e
    exact ⟨r, by rw [e]⟩
  · cases h4
theorem sltB_ok {K : PySem.W.Frag} {C m : Str} (h : sltB K C m = true) : PySem.W.findIn K (.ref (He.ga K C)) m = some (some (.ref (adM C m K))) ∧ PySem.W.isFn K (.ref (adM C m K)) = true := by
  obtain ⟨h1, h2⟩ := Bool.and_eq_true_iff.mp h
  exact ⟨He.eqO_ok h1, h2⟩
theorem nfB_ok {K : PySem.W.Frag} {C : Str} {nf : List Kd} (h : nfB K C nf = true) : ∀ t ∈ nf, PySem.W.notFirst K (He.ga K C) (t.v K) = true := List.all_eq_true.mp h
theorem andB {a b : Bool} (h : (a && b) = true) : a = true ∧ b = true := Bool.and_eq_true_iff.mp h
theorem allB {α : Type} {l : List α} {p : α → Bool} (h : l.all p = true) (i : Nat) {a : α} (e : l[i]? = some a := by rfl) : p a = true := List.all_eq_true.mp h a (List.mem_of_getElem? e)
theorem SaysA.fq {l : List Fq} {fn : List DefA} {K : PySem.W.Frag} (c : SaysA (exL l) fn K) (i : Nat) {f : Fq} (e : l[i]? = some f := by rfl) : f.ok K = true := allB (show l.all (fun f => f.ok K) = true from c.fact) i e
end PM
/-! Sm30: operators by the kind of what stands there. -/
noncomputable section
namespace PM
open PySem PySem.Spec L2
open PyProof.Rows hiding St
section
variable {X : Cx} {Wx : WX}
theorem ac_nil {P : Str → Prop} : ∀ C ∈ ([] : List Str), P C := fun _ h => nomatch h
theorem ac_cons {P : Str → Prop} {C : Str} {l : List Str} (h : P C) (t : ∀ C ∈ l, P C) : ∀ D ∈ C :: l, P D := fun D hD => (List.mem_cons.mp hD).elim (fun e => e ▸ h) (t D)
theorem os_or2 {f : Value → Value → Sem Value} {m n k : W → W → MH → R W} (a : OpS X Wx f m) (c : OpS X Wx f n) (h : ∀ x y g, k x y g = m x y g ∨ k x y g = n x y g) : OpS X Wx f k := ⟨fun pins s σ b g x y x' y' v u Q I S r1 r2 rv ru q => by
  rcases h x y g with z | z
  · exact a.run pins s σ b g x y x' y' v u Q I S r1 r2 rv ru (by rw [← z]; exact q)
  · exact c.run pins s σ b g x y x' y' v u Q I S r1 r2 rv ru (by rw [← z]; exact q)⟩
theorem os_no {f : Value → Value → Sem Value} : OpS X Wx f (fun _ _ _ => .stuck) := ⟨fun pins s σ b g x y x' y' v u Q I S r1 r2 rv ru q => q.elim⟩
theorem cs_or2 {f : Value} {m n k : List W → MH → R W} (a : CallS X Wx f m) (c : CallS X Wx f n) (h : ∀ ws g, k ws g = m ws g ∨ k ws g = n ws g) : CallS X Wx f k := ⟨fun pins s σ b g ws vs us Q I S r rv q => by
  rcases h ws g with z | z
  · exact a.run pins s σ b g ws vs us Q I S r rv (by rw [← z]; exact q)
  · exact c.run pins s σ b g ws vs us Q I S r rv (by rw [← z]; exact q)⟩
theorem cs_no {f : Value} : CallS X Wx f (fun _ _ => .stuck) := ⟨fun pins s σ b g ws vs us Q I S r rv q => q.elim⟩
/-- a part that is never reached -/
theorem se_never {e : Expr} : SE X Wx e (fun _ _ => .stuck) := ⟨⟨fun pins s σ H Q I ⟨_, _, _, _, _, _, q⟩ => q.elim⟩⟩
theorem s1_never {st : Stmt} : SS X Wx st sStuck := ⟨⟨fun pins s σ H D I ⟨_, _, _, _, _, _, q⟩ => q.elim⟩⟩
abbrev noOp : W → W → MH → R W := fun _ _ _ => .stuck
abbrev noCl : List W → MH → R W := fun _ _ => .stuck
/-- by what stands at x: a dict, an instance, another thing -/
def byK {α : Type} (x : W) (h : MH) (d i o : α) : α := match x with
  | .ref j => match h[j]? with
    | some (.dct _) => d
    | some (.lck _) => d
    | some (.ins _ _) => i
    | _ => o
  | .vd _ => d
  | .vi _ _ => i
  | _ => o
theorem byK_or {α : Type} (x : W) (h : MH) (d i o : α) : byK x h d i o = d ∨ byK x h d i o = i ∨ byK x h d i o = o := by
  unfold byK
  split
  · split
    · exact .inl rfl
    · exact .inl rfl
    · exact .inr (.inl rfl)
    · exact .inr (.inr rfl)
  · exact .inl rfl
  · exact .inr (.inl rfl)
  · exact .inr (.inr rfl)
def bEqX (i : W → W → MH → R W) : W → W → MH → R W := fun x y h => byK x h (bEqD false) i bEq x y h
def bNeX (i : W → W → MH → R W) : W → W → MH → R W := fun x y h => byK x h (bEqD true) i bNe x y h
def bInX (neg : Bool) (i : W → W → MH → R W) : W → W → MH → R W := fun x y h => byK y h (bDin neg) i (inG neg) x y h
def bLenX (i : List W → MH → R W) (ws : List W) (h : MH) : R W := match ws with
  | [x] => byK x h bLen i bLen [x] h
  | _ => .stuck
theorem os_byK {f : Value → Value → Sem Value} {d i o k : W → W → MH → R W} (hd : OpS X Wx f d) (hi : OpS X Wx f i) (ho : OpS X Wx f o) (h : ∀ x y g, k x y g = d x y g ∨ k x y g = i x y g ∨ k x y g = o x y g) : OpS X Wx f k := ⟨fun pins s σ b g x y x' y' v u Q I S r1 r2 rv ru q => by
  rcases h x y g with z | z | z
  · exact hd.run pins s σ b g x y x' y' v u Q I S r1 r2 rv ru (by rw [← z]; exact q)
  · exact hi.run pins s σ b g x y x' y' v u Q I S r1 r2 rv ru (by rw [← z]; exact q)
  · exact ho.run pins s σ b g x y x' y' v u Q I S r1 r2 rv ru (by rw [← z]; exact q)⟩
theorem byK_ap {α β : Type} (x : W) (h : MH) (d i o : α → β) (a : α) : byK x h d i o a = byK x h (d a) (i a) (o a) := by
  unfold byK
  cases x with
  | ref j =>
    dsimp only
    cases h[j]? with
    | none => rfl
    | some u => cases u <;> rfl
  | _ => rfl
theorem os_eqX {k : Nat} {i : W → W → MH → R W} (hr : Room k X.A) (hi : OpS X Wx (compareOp .Eq) i) : OpS X Wx (compareOp .Eq) (bEqX i) := os_byK (os_eqD hr) hi (os_eq hr) fun x y g => by
  unfold bEqX
  rw [byK_ap, byK_ap, byK_ap]; exact byK_or ..
theorem os_neX {k : Nat} {i : W → W → MH → R W} (hr : Room k X.A) (hi : OpS X Wx (compareOp .NotEq) i) : OpS X Wx (compareOp .NotEq) (bNeX i) := os_byK (os_neD hr) hi (os_ne hr) fun x y g => by
  unfold bNeX
  rw [byK_ap, byK_ap, byK_ap]; exact byK_or ..
theorem os_inX {k : Nat} {i : W → W → MH → R W} (hr : Room k X.A) (hi : OpS X Wx (compareOp .In) i) : OpS X Wx (compareOp .In) (bInX false i) := os_byK (os_din hr) hi os_in fun x y g => by
  unfold bInX
  rw [byK_ap, byK_ap, byK_ap]; exact byK_or ..
theorem os_notinX {k : Nat} {i : W → W → MH → R W} (hr : Room k X.A) (hi : OpS X Wx (compareOp .NotIn) i) : OpS X Wx (compareOp .NotIn) (bInX true i) := os_byK (os_dnotin hr) hi os_notin fun x y g => by
  unfold bInX
  rw [byK_ap, byK_ap, byK_ap]; exact byK_or ..
theorem cs_lenX {i : List W → MH → R W} (hi : CallS X Wx (.builtin "len") i) : CallS X Wx (.builtin "len") (bLenX i) := ⟨fun pins s σ b g ws vs us Q I S r rv q => by
  unfold bLenX at q
  split at q
  · rename_i x
    rw [byK_ap, byK_ap] at q
    rcases byK_or x g (bLen [x] g) (i [x] g) (bLen [x] g) with z | z | z
    · rw [z] at q; exact cs_len.run pins s σ b g _ vs us Q I S r rv q
    · rw [z] at q; exact hi.run pins s σ b g _ vs us Q I S r rv q
    · rw [z] at q; exact cs_len.run pins s σ b g _ vs us Q I S r rv q
  · exact q.elim⟩
/-- x[k] -/
def bIxX : W → W → MH → R W := fun x y h => byK x h bDix noOp bIx x y h
theorem e2_or3 {m n : EM} {d i o k : W → W → MH → R W} (h : ∀ x y g, k x y g = d x y g ∨ k x y g = o x y g ∨ k x y g = .stuck) (σ : MS) (g : MH) : e2 k m n σ g = e2 d m n σ g ∨ e2 k m n σ g = e2 o m n σ g ∨ e2 k m n σ g = .stuck := by
  unfold e2
  cases m σ g with
  | stuck => exact .inl rfl
  | exc x g1 => exact .inl rfl
  | ok x g1 =>
    simp only [R.bind_ok]
    cases n σ g1 with
    | stuck => exact .inl rfl
    | exc y g2 => exact .inl rfl
    | ok y g2 => exact h x y g2
variable {k : Nat} {a c o i e value : Expr} {ma mc mo mi mv : EM} {pos pos' : Pos}
theorem se_ixX (hr : Room k X.A) (ha : SE X Wx a ma) (hc : SE X Wx c mc) (hs : PlainIx c := by exact fun _ _ => rfl) : SE X Wx (.Subscript a c pos) (e2 bIxX ma mc) :=
  se_or2 (se_dix hr ha hc hs) (se_ix ha hc hs) fun σ g => e2_or3 (d := bDix) (i := noOp) (o := bIx) (fun x y g => by
    unfold bIxX
    rw [byK_ap, byK_ap, byK_ap]
    rcases byK_or x g (bDix x y g) (noOp x y g) (bIx x y g) with z | z | z
    · exact .inl z
    · exact .inr (.inr z)
    · exact .inr (.inl z)) σ g
/-- o[i] = v: a list or a dict -/
def putA (o i v : W) (h : MH) : Option MH := match o with
  | .ref j => match h[j]? with
    | some (.dct kvs) => match keyOf i with
      | some k => if kvs.length < sizeLine then some (h.set j (.dct (putM kvs k v))) else none
      | none => none
    | some (.lst xs) => match i with
      | .int k => match ixN xs.length k with
        | some n => some (h.set j (.lst (xs.set n v)))
        | none => none
      | _ => none
    | _ => none
  | _ => none
def sSetA (mo mi mv : EM) : SM := fun σ h => (mv σ h).st σ fun v h1 => (mo σ h1).st σ fun o h2 => (mi σ h2).st σ fun i h3 => match putA o i v h3 with
  | some g => .nx σ g
  | none => .stuck
theorem setA_or (mo mi mv : EM) (σ : MS) (h : MH) : sSetA mo mi mv σ h = sSetIx mo mi mv σ h ∨ sSetA mo mi mv σ h = sDput mo mi mv σ h ∨ sSetA mo mi mv σ h = .stuck := by
  unfold sSetA sSetIx sDput
  cases mv σ h with
  | stuck => exact .inl rfl
  | exc _ _ => exact .inl rfl
  | ok v h1 =>
    simp only [R.st_ok]
    cases mo σ h1 with
    | stuck => exact .inl rfl
    | exc _ _ => exact .inl rfl
    | ok w h2 =>
      simp only [R.st_ok]
      cases mi σ h2 with
      | stuck => exact .inl rfl
      | exc _ _ => exact .inl rfl
      | ok y h3 =>
        simp only [R.st_ok]
        unfold putA
        cases w with
        | ref j =>
          dsimp only
          cases ej : h3[j]? with
          | none => exact .inr (.inr rfl)
          | some ob =>
            cases ob with
            | lst xs =>
              cases y with
              | int k =>
                refine .inl ?_
                have em : mutAt h3 j = some xs := by unfold mutAt; rw [ej]
                dsimp only
                rw [em]
                dsimp only
                cases ixN xs.length k <;> rfl
              | _ => exact .inr (.inr rfl)
            | dct kvs =>
              refine .inr (.inl ?_)
              dsimp only
              cases keyOf y with
              | none => rfl
              | some k =>
                dsimp only
                rw [ej]
                dsimp only
                by_cases hz : kvs.length < sizeLine
                · rw [if_pos hz, if_pos hz]
                · rw [if_neg hz, if_neg hz]
            | _ => exact .inr (.inr rfl)
        | _ => exact .inr (.inr rfl)
theorem ss_setA (hr : Room k X.A) (ho : SE X Wx a mo) (hi : SE X Wx c mi) (he : SE X Wx e mv) (hsw : swapsWith e (some (.Subscript a c pos)) pos'.line X.env = pure false := by rfl) (hs : swapsWithSole [.Subscript a c pos] e pos'.line X.env = pure false := by rfl) (hw : swappedStores [.Subscript a c pos] e X.env = pure none := by rfl)
    (h1 : (assignEach [.Subscript a c pos] X.env).map (·.2) = [assign (.Subscript a c pos) X.env] := by rfl)
    (hx : ∀ v, assign (.Subscript a c pos) X.env v = (do let ov ← holding [v] (eval a X.env); let iv ← holding [v, ov] (eval c X.env); standAt pos; holding [v, ov, iv] (setItem ov iv v); release [v, ov, iv] []) := by intro _; rfl) :
    SS X Wx (.Assign [.Subscript a c pos] e pos') (sSetA mo mi mv) := ss_or2 (ss_setIx ho hi he hs hw h1 hx) (ss_dput hr ho hi he hsw) fun σ g => setA_or mo mi mv σ g
end
end PM
/-! Sm31: calls with every parameter written. -/
noncomputable section
namespace PM
open PySem PySem.Spec L2
open PyProof.Rows hiding St
section
variable {K : PySem.W.Frag} {x qual : Str} {params : Arguments} {body : List Stmt} {scope : Scope} {dvs : List V} {kws : List (Str × V)} {f : Addr} {fd : FuncData} {ps : List Str}
theorem kbI_N (F : FunD K x qual params body scope [] kws f fd) (np : Nat) (hn : np = ps.length)
    (h : ∀ (kV doc pm : Value) (an : Option Addr) (cdv ct : Value) (us : List Value), us.length = ps.length → bindArgs (PySem.W.fnOf x qual params body scope .none kV doc pm an cdv ct) ⟨us, []⟩ = pure (ps.zip us)) : ∃ g gV, KbG K fd ps [] np g gV (fun us _ => us) := by
  obtain ⟨oc, od, dV, kV, doc, pm, an, cdv, ct, osl, rfl, lk, hcd, hD, hK⟩ := F.ex
  rcases hD with ⟨_, rfl⟩ | ⟨e, _⟩
  · exact ⟨fun us _ => us, fun vs _ => vs, fun s us ws X l1 l2 _ => .of_eq (h kV doc pm an cdv ct us (l1.trans hn)), fun r1 _ => r1, fun r1 _ => r1⟩
  · exact absurd rfl e
theorem kbI_pos (F : FunD K x qual params body scope dvs kws f fd) (np : Nat) (hd : dvs ≠ [])
    (h : ∀ (T : Addr) (kV doc pm : Value) (an : Option Addr) (cdv ct : Value) (us its : List Value), us.length = np → its.length = dvs.length →
      ∃ k, bindArgs (PySem.W.fnOf x qual params body scope (.ref T) kV doc pm an cdv ct) ⟨us, []⟩ = seqItems? (.ref T) >>= k ∧ k (some its.toArray) = pure (ps.zip us)) : ∃ g gV, KbG K fd ps [] np g gV (fun us _ => us) := by
  obtain ⟨oc, od, dV, kV, doc, pm, an, cdv, ct, osl, rfl, lk, hcd, hD, hK⟩ := F.ex
  rcases hD with ⟨e, _⟩ | ⟨_, T, o, its, m, rfl, lT, oT, rT⟩
  · exact absurd e hd
  · refine ⟨fun us _ => us, fun vs _ => vs, fun s us ws X l1 l2 _ => ?_, fun r1 _ => r1, fun r1 _ => r1⟩
    obtain ⟨k, e1, e2⟩ := h T kV doc pm an cdv ct us its l1 rT.length.symm
    refine BindsTo.of_looks fun M => ?_
    show PySem.W.Looks M s.heap (bindArgs _ ⟨us, []⟩) _
    rw [e1]
    exact looks_items X lT oT (.of_pure e2)
end
section
variable {X : Cx} {Wx : WX} {k : Nat} {f : Addr} {fd : FuncData} {ps ks : List Str} {m : FM} {C : Str} {np : Nat} {g : List Value → List Value → List Value} {gV : List V → List V → List V} {gW : List W → List W → List W} {mm : List W → List W → MH → R W} {m1 : List W → MH → R W}
theorem cG_fn (F : FnG X.prog X.w X.K X.mg X.base k f fd ps m) (hr : Room k X.A) (hgd : X.A.guards = some []) (tk : Takes X Wx) (hb : KbG X.K fd ps ks np g gV gW) (kp : PySem.W.keepIn X.K (.ref f) = true) (e : mm = fun ws zs => m (gW ws zs) := by rfl) : CalG X Wx (.ref f) np ks mm := e ▸ calG_fn F hr hgd tk hb kp
theorem cG_mk (M : Mk X.K (He.ga X.K C) f) (F : FnG X.prog X.w X.K X.mg X.base k f fd ps m) (hr : Room (k + 1) X.A) (hgd : X.A.guards = some []) (tk : Takes X Wx) (hb : KbG X.K fd ps ks (np + 1) g gV gW) (e : mm = mkM C fun ws zs => m (gW ws zs) := by rfl) : CalG X Wx (.ref (He.ga X.K C)) np ks mm := e ▸ calG_mk M F hr hgd tk hb
theorem cM_fn (F : FnG X.prog X.w X.K X.mg X.base k f fd ps m) (hr : Room (k + 1) X.A) (hgd : X.A.guards = some []) (tk : Takes X Wx) (hb : KbG X.K fd ps [] np g gV gW) (e : m1 = fun ws => m (gW ws []) := by rfl) : CalM X Wx f np m1 := e ▸ calM_fn F hr hgd tk hb
theorem se_prp {p fp : Addr} {f : Str} {e : Expr} {me : EM} {pos : Pos} (c : Cls X.K (He.ga X.K C)) (hp : PropOf X.K (He.ga X.K C) f p fp) (F : FnG X.prog X.w X.K X.mg X.base k fp fd ps m) (hr : Room (k + 1) X.A) (hgd : X.A.guards = some []) (hb : KbG X.K fd ps [] 1 g gV gW)
    (he : SE X Wx e me) (em : m1 = fun ws => m (gW ws []) := by rfl) (hab : attributeBase e f X.env (eval e X.env) = eval e X.env := by rfl) : SE X Wx (.Attribute e f pos) (eProp C m1 me) := em ▸ se_prop c hp F hr hgd hb he hab
end
end PM
/-! Sm32: dicts of integers, reckoned with. -/
noncomputable section
namespace PM
open PySem PySem.Spec L2
section
variable {κ : Type} [DecidableEq κ] {α : Type}
theorem val_nil (k : κ) : valM ([] : List (κ × α)) k = none := rfl
theorem val_cons (p : κ × α) (l : List (κ × α)) (k : κ) : valM (p :: l) k = if p.1 = k then some p.2 else valM l k := by
  unfold valM
  rw [List.find?_cons]
  by_cases h : p.1 = k
  · simp [h]
  · simp [h]
theorem val_mem {l : List (κ × α)} {k : κ} {v : α} (h : valM l k = some v) : (k, v) ∈ l := by
  induction l with
  | nil => cases h
  | cons p l ih =>
    rw [val_cons] at h
    by_cases hp : p.1 = k
    · rw [if_pos hp] at h
      cases h
      subst hp
      exact .head _
    · rw [if_neg hp] at h
      exact .tail _ (ih h)
theorem val_none {l : List (κ × α)} {k : κ} : valM l k = none ↔ k ∉ l.map (·.1) := by
  induction l with
  | nil => simp [val_nil]
  | cons p l ih =>
    rw [val_cons]
    by_cases hp : p.1 = k
    · simp [hp]
    · rw [if_neg hp, ih]
      simp
      intro _ z
      exact hp z.symm
theorem val_of_mem {l : List (κ × α)} {k : κ} {v : α} (n : (l.map (·.1)).Nodup) (h : (k, v) ∈ l) : valM l k = some v := by
  induction l with
  | nil => cases h
  | cons p l ih =>
    rw [List.map_cons, List.nodup_cons] at n
    rw [val_cons]
    rcases List.mem_cons.mp h with e | h
    · subst e; simp
    · have : p.1 ≠ k := fun e => n.1 (e ▸ List.mem_map.mpr ⟨_, h, rfl⟩)
      rw [if_neg this]
      exact ih n.2 h
theorem any_val (l : List (κ × α)) (k : κ) : (l.any fun kv => decide (kv.1 = k)) = (valM l k).isSome := by
  induction l with
  | nil => rfl
  | cons p l ih =>
    rw [val_cons, List.any_cons, ih]
    by_cases hp : p.1 = k
    · simp [hp]
    · simp [hp]
theorem val_upd (l : List (κ × α)) (k j : κ) (v : α) : valM (l.map fun kv => if kv.1 = k then (kv.1, v) else kv) j = (valM l j).map fun x => if k = j then v else x := by
  induction l with
  | nil => rfl
  | cons p l ih =>
    rw [List.map_cons, val_cons, val_cons, ih]
    by_cases hp : p.1 = k
    · rw [if_pos hp]
      by_cases hj : p.1 = j
      · have : k = j := hp ▸ hj
        simp [hj, this]
      · simp [hj]
    · rw [if_neg hp]
      by_cases hj : p.1 = j
      · have : ¬ k = j := fun z => hp (hj.trans z.symm)
        simp [hj, this]
      · simp [hj]
theorem val_put (l : List (κ × α)) (k j : κ) (v : α) : valM (putM l k v) j = if k = j then some v else valM l j := by
  unfold putM
  rw [any_val]
  cases h : valM l k with
  | none =>
    simp only [Option.isSome_none, Bool.false_eq_true, if_false]
    induction l with
    | nil => simp [val_cons, val_nil]
    | cons p l ih =>
      rw [val_cons] at h
      by_cases hp : p.1 = k
      · rw [if_pos hp] at h; cases h
      · rw [if_neg hp] at h
        rw [List.cons_append, val_cons, val_cons, ih h]
        by_cases hj : p.1 = j
        · subst hj
          rw [if_pos rfl, if_pos rfl, if_neg (fun z => hp z.symm)]
        · rw [if_neg hj, if_neg hj]
  | some w =>
    simp only [Option.isSome_some, if_true]
    rw [val_upd]
    by_cases hk : k = j
    · subst hk
      simp [h]
    · simp [hk]
theorem keys_put (l : List (κ × α)) (k : κ) (v : α) : (putM l k v).map (·.1) = if (valM l k).isSome then l.map (·.1) else l.map (·.1) ++ [k] := by
  unfold putM
  rw [any_val]
  split
  · rw [List.map_map]
    apply List.map_congr_left
    intro p _
    show (if p.1 = k then (p.1, v) else p).1 = p.1
    split <;> rfl
  · simp
theorem nodup_put {l : List (κ × α)} (n : (l.map (·.1)).Nodup) (k : κ) (v : α) : ((putM l k v).map (·.1)).Nodup := by
  rw [keys_put]
  split
  · exact n
  · rename_i h
    have h : valM l k = none := by simpa using h
    rw [List.nodup_append]
    refine ⟨n, by simp, fun a ha b hb => ?_⟩
    have hb : b = k := by simpa using hb
    subst hb
    exact fun z => val_none.mp h (z ▸ ha)
theorem mem_put {l : List (κ × α)} {k : κ} {v : α} {p : κ × α} (h : p ∈ putM l k v) : p ∈ l ∨ p = (k, v) := by
  unfold putM at h
  split at h
  · obtain ⟨q, hq, e⟩ := List.mem_map.mp h
    by_cases z : q.1 = k
    · rw [if_pos z] at e; right; rw [← e, z]
    · rw [if_neg z] at e; left; rw [← e]; exact hq
  · rcases List.mem_append.mp h with h | h
    · exact .inl h
    · exact .inr (by simpa using h)
theorem len_put (l : List (κ × α)) (k : κ) (v : α) : (putM l k v).length ≤ l.length + 1 := by
  unfold putM
  split
  · rw [List.length_map]; omega
  · rw [List.length_append]; simp
theorem val_drop (l : List (κ × α)) (k j : κ) : valM (dropM l k) j = if k = j then none else valM l j := by
  unfold dropM
  induction l with
  | nil => simp [val_nil]
  | cons p l ih =>
    rw [List.filter_cons]
    by_cases hp : p.1 = k
    · rw [if_neg (by simpa using hp), ih, val_cons]
      by_cases hk : k = j
      · simp [hk]
      · rw [if_neg hk, if_neg hk, if_neg (fun z => hk (hp ▸ z))]
    · rw [if_pos (by simpa using hp), val_cons, val_cons, ih]
      by_cases hk : k = j
      · subst hk
        rw [if_neg hp, if_pos rfl, if_pos rfl]
      · rw [if_neg hk, if_neg hk]
theorem nodup_drop {l : List (κ × α)} (n : (l.map (·.1)).Nodup) (k : κ) : ((dropM l k).map (·.1)).Nodup := by
  unfold dropM
  exact List.Pairwise.sublist (List.Sublist.map _ List.filter_sublist) n
theorem mem_drop {l : List (κ × α)} {k : κ} {p : κ × α} (h : p ∈ dropM l k) : p ∈ l := (List.mem_filter.mp h).1
theorem merge_cons (l : List (κ × α)) (p : κ × α) (m : List (κ × α)) : mergeM l (p :: m) = mergeM (putM l p.1 p.2) m := rfl
theorem merge_nil (l : List (κ × α)) : mergeM l [] = l := rfl
theorem nodup_merge {l : List (κ × α)} (n : (l.map (·.1)).Nodup) : ∀ m : List (κ × α), ((mergeM l m).map (·.1)).Nodup := by
  intro m
  induction m generalizing l with
  | nil => exact n
  | cons p m ih => exact ih (nodup_put n _ _)
theorem mem_merge {l m : List (κ × α)} {p : κ × α} (h : p ∈ mergeM l m) : p ∈ l ∨ p ∈ m := by
  induction m generalizing l with
  | nil => exact .inl h
  | cons q m ih =>
    rcases ih h with h | h
    · rcases mem_put h with h | h
      · exact .inl h
      · exact .inr (h ▸ .head _)
    · exact .inr (.tail _ h)
theorem len_merge (l m : List (κ × α)) : (mergeM l m).length ≤ l.length + m.length := by
  induction m generalizing l with
  | nil => simp [merge_nil]
  | cons q m ih =>
    have h1 := ih (putM l q.1 q.2)
    have h2 := len_put l q.1 q.2
    rw [merge_cons]
    simp only [List.length_cons]
    omega
theorem val_merge (l m : List (κ × α)) (n : (m.map (·.1)).Nodup) (j : κ) : valM (mergeM l m) j = (valM m j).or (valM l j) := by
  induction m generalizing l with
  | nil => simp [merge_nil, val_nil]
  | cons q m ih =>
    rw [List.map_cons, List.nodup_cons] at n
    rw [merge_cons, ih _ n.2, val_put, val_cons]
    by_cases hq : q.1 = j
    · subst hq
      have : valM m q.1 = none := val_none.mpr n.1
      simp [this]
    · simp [hq]
/-- a nodup list laid into nothing is itself -/
theorem merge_self {m l : List (κ × α)} (n : ((l ++ m).map (·.1)).Nodup) : mergeM l m = l ++ m := by
  induction m generalizing l with
  | nil => simp [merge_nil]
  | cons q m ih =>
    have h1 : valM l q.1 = none := val_none.mpr fun z => by
      rw [List.map_append, List.nodup_append] at n
      exact n.2.2 _ z _ (by simp) rfl
    have h2 : putM l q.1 q.2 = l ++ [q] := by
      unfold putM
      rw [any_val, h1]
      simp
    rw [merge_cons, h2, ih (by simpa using n)]
    simp
end
/-! ### integers to integers -/
abbrev DI := List (Int × Int)
def D (l : DI) : List (Key × W) := l.map fun p => (Sum.inl p.1, W.int p.2)
theorem D_len (l : DI) : (D l).length = l.length := List.length_map _
theorem D_nil : D [] = [] := rfl
theorem D_val (l : DI) (k : Int) : valM (D l) (Sum.inl k) = (valM l k).map W.int := by
  induction l with
  | nil => rfl
  | cons p l ih =>
    show valM ((Sum.inl p.1, W.int p.2) :: D l) _ = _
    rw [val_cons, val_cons, ih]
    by_cases h : p.1 = k
    · simp [h]
    · simp [h]
theorem D_put (l : DI) (k v : Int) : putM (D l) (Sum.inl k) (.int v) = D (putM l k v) := by
  unfold putM
  rw [any_val, any_val, D_val]
  cases h : valM l k with
  | none => simp [D]
  | some w =>
    simp only [Option.map_some, Option.isSome_some, if_true]
    unfold D
    rw [List.map_map, List.map_map]
    apply List.map_congr_left
    intro p _
    show (if (Sum.inl p.1 : Key) = Sum.inl k then _ else _) = ((Sum.inl (if p.1 = k then (p.1, v) else p).1, W.int (if p.1 = k then (p.1, v) else p).2) : Key × W)
    by_cases h : p.1 = k
    · simp [h]
    · simp [h]
theorem D_drop (l : DI) (k : Int) : dropM (D l) (Sum.inl k) = D (dropM l k) := by
  unfold dropM D
  rw [List.filter_map]
  congr 1
  apply List.filter_congr
  intro p _
  by_cases h : p.1 = k
  · simp [h]
  · simp [h]
theorem D_merge (l m : DI) : mergeM (D l) (D m) = D (mergeM l m) := by
  induction m generalizing l with
  | nil => rfl
  | cons q m ih =>
    show mergeM (putM (D l) (Sum.inl q.1) (.int q.2)) (D m) = _
    rw [D_put, ih]
    rfl
theorem intsOf_map : ∀ l : List Int, intsOf (l.map W.int) = some l
  | [] => rfl
  | i :: l => by simp [intsOf, intsOf_map l]
theorem D_keys (l : DI) : intKeys (D l) = some (l.map (·.1)) := by
  unfold intKeys D
  rw [List.map_map]
  show intsOf (l.map fun p => W.int p.1) = _
  have : (l.map fun p => W.int p.1) = (l.map (·.1)).map W.int := by rw [List.map_map]; rfl
  rw [this, intsOf_map]
theorem D_keyW (l : DI) : (D l).map (fun kv => keyW kv.1) = (l.map (·.1)).map W.int := by
  unfold D
  rw [List.map_map, List.map_map]
  rfl
theorem eqv_int (i j : Int) : PyData.eqv (.int i) (.int j) = (i == j) := by rw [PyData.eqv]
theorem D_hits {l : DI} : ∀ {m : DI}, (∀ p ∈ m, valM l p.1 = some p.2) → hitsM (D l) (D m) = some true
  | [], _ => rfl
  | p :: m, h => by
    show hitsM (D l) ((Sum.inl p.1, W.int p.2) :: D m) = _
    unfold hitsM
    rw [D_val, h p (.head _)]
    simp [flatD, eqv_int, D_hits fun q hq => h q (.tail _ hq)]
/-- the keys in ascending order -/
def S (l : DI) : DI := (srtI (l.map (·.1))).map fun k => (k, (valM l k).getD 0)
theorem S_keys (l : DI) : (S l).map (·.1) = srtI (l.map (·.1)) := by
  unfold S
  rw [List.map_map]
  show List.map (fun k => k) _ = _
  simp
theorem S_nodup {l : DI} (n : (l.map (·.1)).Nodup) : ((S l).map (·.1)).Nodup := by
  rw [S_keys]
  exact (srtI_perm _).nodup_iff.mpr n
theorem S_len (l : DI) : (S l).length = l.length := by
  unfold S
  rw [List.length_map, (srtI_perm _).length_eq, List.length_map]
theorem S_mem {l : DI} (n : (l.map (·.1)).Nodup) {p : Int × Int} : p ∈ S l ↔ p ∈ l := by
  unfold S
  rw [List.mem_map]
  constructor
  · rintro ⟨k, hk, rfl⟩
    have hk : k ∈ l.map (·.1) := (srtI_perm _).mem_iff.mp hk
    obtain ⟨q, hq, rfl⟩ := List.mem_map.mp hk
    rw [val_of_mem n (v := q.2) hq]
    exact hq
  · intro h
    refine ⟨p.1, (srtI_perm _).mem_iff.mpr (List.mem_map.mpr ⟨p, h, rfl⟩), ?_⟩
    rw [val_of_mem n (v := p.2) h]
    rfl
theorem S_val {l : DI} (n : (l.map (·.1)).Nodup) (k : Int) : valM (S l) k = valM l k := by
  cases h : valM l k with
  | none =>
    rw [val_none, S_keys]
    rw [val_none] at h
    exact fun z => h ((srtI_perm _).mem_iff.mp z)
  | some v => exact val_of_mem (S_nodup n) ((S_mem n).mpr (val_mem h))
/-- two that hold the same are the same in order -/
theorem S_congr {l m : DI} (n : (l.map (·.1)).Nodup) (n' : (m.map (·.1)).Nodup) (h : ∀ k, valM l k = valM m k) : S l = S m := by
  have hp : (l.map (·.1)).Perm (m.map (·.1)) := by
    rw [List.perm_iff_count]
    intro k
    have : k ∈ l.map (·.1) ↔ k ∈ m.map (·.1) := by
      have h1 := val_none (l := l) (k := k)
      have h2 := val_none (l := m) (k := k)
      rw [h k] at h1
      exact Decidable.not_iff_not.mp (h1.symm.trans h2)
    by_cases hk : k ∈ l.map (·.1)
    · rw [n.count, n'.count, if_pos hk, if_pos (this.mp hk)]
    · rw [n.count, n'.count, if_neg hk, if_neg (fun z => hk (this.mpr z))]
  have hs : srtI (l.map (·.1)) = srtI (m.map (·.1)) := by
    have q := srtI_eq (l := m.map (·.1)) (ys := srtI (l.map (·.1))) ((srtI_perm _).trans hp) (List.Pairwise.imp (fun h => of_decide_eq_true h) (List.pairwise_mergeSort (le := fun (a c : Int) => decide (a ≤ c)) (fun a b c h1 h2 => decide_eq_true (Int.le_trans (of_decide_eq_true h1) (of_decide_eq_true h2))) (fun a b => by
      rcases Int.le_total a b with h | h
      · simp [h]
      · simp [h]) _))
    exact q
  unfold S
  rw [hs]
  apply List.map_congr_left
  intro k _
  rw [h k]
theorem keys_len_eq {l m : DI} (n : (l.map (·.1)).Nodup) (n' : (m.map (·.1)).Nodup) (h : ∀ k, valM l k = valM m k) : l.length = m.length := by
  rw [← S_len l, ← S_len m, S_congr n n' h]
/-- dicts that hold the same are equal -/
theorem eqD_same {x y : W} {h : MH} {l m : DI} {neg : Bool} (hi : dctW h x = some (D l)) (hj : dctW h y = some (D m)) (n : (l.map (·.1)).Nodup) (n' : (m.map (·.1)).Nodup) (e : ∀ k, valM l k = valM m k) : bEqD neg x y h = .ok (.bl !neg) h := by
  have hl : (D l).length = (D m).length := by rw [D_len, D_len, keys_len_eq n n' e]
  have hh : hitsM (D m) (D l) = some true := D_hits fun p hp => by
    rw [← e]
    exact val_of_mem n hp
  unfold bEqD
  simp only [hi, hj, if_pos hl, hh]
  cases neg <;> rfl
end PM
/-! Sm33: reckoning with instances and dicts. -/
noncomputable section
namespace PM
open PySem PySem.Spec L2
section
variable (σ : MS) (h : MH)
@[simp] theorem ev_alt (m n : EM) : eAlt m n σ h = match m σ h with
    | .stuck => n σ h
    | r => r := rfl
@[simp] theorem ev_fld (cs : List Str) (f : Str) (m : EM) : eFld cs f m σ h = (m σ h).bind fun x g => match insW g x with
  | some (C, fs) => if C ∈ cs then match fldM fs f with
    | some w => .ok w g
    | none => .stuck else .stuck
  | none => .stuck := rfl
@[simp] theorem ev_prop (C : Str) (m : List W → MH → R W) (mo : EM) : eProp C m mo σ h = (mo σ h).bind fun x g => match insW g x with
  | some (C', _) => if C' = C then (m [x] g).nox else .stuck
  | none => .stuck := rfl
@[simp] theorem ev_met (C mn : Str) (np nk : Nat) (m : List W → List W → MH → R W) (mo : EM) (n k : AM) : eMet C mn np nk m mo n k σ h = (mo σ h).bind fun x g => metG C mn x g fun y g => (n σ g).bind fun ws h1 => (k σ h1).bind fun zs h2 =>
  if (y :: ws).length = np ∧ zs.length = nk then m (y :: ws) zs h2 else .stuck := rfl
@[simp] theorem ev_cal (np nk : Nat) (m : List W → List W → MH → R W) (n k : AM) : eCal np nk m n k σ h = (n σ h).bind fun ws h1 => (k σ h1).bind fun zs h2 => if ws.length = np ∧ zs.length = nk then m ws zs h2 else .stuck := rfl
@[simp] theorem ev_bm (T : String) (m : List W → MH → R W) (mo : EM) (n : AM) : eBM T m mo n σ h = (mo σ h).bind fun x h1 => if bty x h1 = some T then (n σ h1).bind fun ws h2 => m (x :: ws) h2 else .stuck := rfl
@[simp] theorem ev_dc (it : MS → MH → R MI) (vs : List Nat) (g : GM) (t : TM) (mk m : EM) : eDc it vs g t mk m σ h = (it σ h).bind fun mi h1 => dcGo mi g t mk m (wipeM σ vs) h1.length mi.fuel 0 (h1 ++ [.dct []]) := rfl
@[simp] theorem ev_lrg1 (m : EM) : eLRg1 m σ h = (m σ h).bind fun x g => match x with
  | .int n => if rgOk 0 n = true then .ok (.ref g.length) (g ++ [.lst (rgW 0 n)]) else .stuck
  | _ => .stuck := rfl
@[simp] theorem ev_lrg2 (m n : EM) : eLRg2 m n σ h = (m σ h).bind fun x g => (n σ g).bind fun y g2 => match x, y with
  | .int i, .int n => if rgOk i n = true then .ok (.ref g2.length) (g2 ++ [.lst (rgW i n)]) else .stuck
  | _, _ => .stuck := rfl
@[simp] theorem ev_idct (f : List (Key × W) → MI) (m : EM) : iDct f m σ h = (m σ h).bind (onLck f) := rfl
@[simp] theorem ev_fldS (cs : List Str) (f : Str) (mo mv : EM) : sFldM cs f mo mv σ h = (mv σ h).st σ fun y h1 => (mo σ h1).st σ fun x h2 => match x with
  | .ref i => match insAt h2 i with
    | some (C, fs) => if C ∈ cs ∧ fs.length < 1000 then .nx σ (h2.set i (.ins C (putFM f y fs))) else .stuck
    | none => .stuck
  | _ => .stuck := rfl
@[simp] theorem ev_setA (mo mi mv : EM) : sSetA mo mi mv σ h = (mv σ h).st σ fun v h1 => (mo σ h1).st σ fun o h2 => (mi σ h2).st σ fun i h3 => match putA o i v h3 with
  | some g => .nx σ g
  | none => .stuck := rfl
@[simp] theorem ev_ddel (mo mi : EM) : sDdel mo mi σ h = (mo σ h).st σ fun o h2 => (mi σ h2).st σ fun i h3 => match o, keyOf i with
  | .ref j, some k => match h3[j]? with
    | some (.dct kvs) => if (valM kvs k).isSome = true then .nx σ (h3.set j (.dct (dropM kvs k))) else .stuck
    | _ => .stuck
  | _, _ => .stuck := rfl
end
section
variable {h g : MH} {i j : Nat} {xs : List W} {w : W} {k : Int} {l m : DI}
/-! ### what stands there -/
theorem lst_get (e : lstAt h i = some xs) : h[i]? = some (.lst xs) ∨ h[i]? = some (.ro xs) := by
  unfold lstAt at e
  split at e
  · rename_i q; cases e; exact .inl q
  · rename_i q; cases e; exact .inr q
  · cases e
theorem byK_l {α : Type} {d a o : α} (e : lstAt h i = some xs) : byK (.ref i) h d a o = o := by
  unfold byK
  rcases lst_get e with q | q <;> simp [q]
theorem byK_d {α : Type} {d a o : α} {kvs : List (Key × W)} (e : dctAt h i = some kvs) : byK (.ref i) h d a o = d := by
  unfold dctAt at e
  unfold byK
  dsimp only
  split at e
  · rename_i q; simp [q]
  · rename_i q; simp [q]
  · cases e
theorem byK_i {α : Type} {d a o : α} {C : Str} {fs : List (Str × W)} (e : insAt h i = some (C, fs)) : byK (.ref i) h d a o = a := by
  unfold byK
  simp [insAt_eq e]
@[simp] theorem byK_int {α : Type} {d a o : α} (z : Int) : byK (.int z) h d a o = o := rfl
@[simp] theorem byK_bl {α : Type} {d a o : α} (z : Bool) : byK (.bl z) h d a o = o := rfl
@[simp] theorem byK_str {α : Type} {d a o : α} (z : Str) : byK (.str z) h d a o = o := rfl
@[simp] theorem byK_non {α : Type} {d a o : α} : byK .non h d a o = o := rfl
@[simp] theorem byK_tup {α : Type} {d a o : α} (z : List W) : byK (.tup z) h d a o = o := rfl
theorem ixX_l (e : lstAt h i = some xs) (a : atI xs k = some w) : bIxX (.ref i) (.int k) h = .ok w h := by
  unfold bIxX
  rw [byK_l e]; exact ix_l e a
theorem ixX_t (a : atI xs k = some w) : bIxX (.tup xs) (.int k) h = .ok w h := by
  unfold bIxX
  rw [byK_tup]
  simp [bIx, seqAt, a]
theorem ixX_d (e : dctAt h i = some (D l)) {v : Int} (a : valM l k = some v) : bIxX (.ref i) (.int k) h = .ok (.int v) h := by
  unfold bIxX
  rw [byK_d e]
  simp [bDix, e, keyOf, D_val, a]
theorem inX_d (e : dctAt h i = some (D l)) (neg : Bool) (f : W → W → MH → R W) : bInX neg f (.int k) (.ref i) h = .ok (.bl (if neg then !(valM l k).isSome else (valM l k).isSome)) h := by
  unfold bInX
  rw [byK_d e]
  simp [bDin, e, keyOf, D_val]
theorem dct_at {kvs : List (Key × W)} (e : h[i]? = some (.dct kvs)) : dctAt h i = some kvs := by
  unfold dctAt; rw [e]
theorem ins_at {C : Str} {fs : List (Str × W)} (e : h[i]? = some (.ins C fs)) : insAt h i = some (C, fs) := by
  unfold insAt; rw [e]
theorem bty_l (e : lstAt h i = some xs) : bty (.ref i) h = some "list" := by
  unfold bty; simp [e]
theorem bty_d {kvs : List (Key × W)} (e : dctAt h i = some kvs) : bty (.ref i) h = some "dict" := by
  have : lstAt h i = none := by
    unfold dctAt at e
    unfold lstAt
    split at e
    · rename_i q; simp [q]
    · rename_i q; simp [q]
    · cases e
  unfold bty; simp [e, this]
theorem putA_l (e : mutAt h i = some xs) {n : Nat} (a : ixN xs.length k = some n) : putA (.ref i) (.int k) w h = some (h.set i (.lst (xs.set n w))) := by
  unfold putA
  simp [mutAt_eq e, a]
theorem putA_d (e : h[i]? = some (.dct (D l))) (hz : l.length < sizeLine) {v : Int} : putA (.ref i) (.int k) (.int v) h = some (h.set i (.dct (D (putM l k v)))) := by
  unfold putA
  simp [e, keyOf, D_len, hz, D_put]
end
end PM
/-! Sm34: frames, dict comprehensions, locked loops, reckoned with. -/
noncomputable section
namespace PM
open PySem PySem.Spec L2
/-- all that stood stands -/
structure Gr (h h' : MH) : Prop where
  le : h.length ≤ h'.length
  at_ : ∀ i, i < h.length → h'[i]? = h[i]?
theorem Gr.refl {h : MH} : Gr h h := ⟨Nat.le_refl _, fun _ _ => rfl⟩
theorem Gr.trans {h1 h2 h3 : MH} (x : Gr h1 h2) (y : Gr h2 h3) : Gr h1 h3 := ⟨Nat.le_trans x.le y.le, fun i hi => (y.at_ i (Nat.lt_of_lt_of_le hi x.le)).trans (x.at_ i hi)⟩
theorem Gr.app {h : MH} (e : MH) : Gr h (h ++ e) := ⟨by simp, fun i hl => List.getElem?_append_left hl⟩
theorem Gr.set {h h' : MH} (x : Gr h h') {j : Nat} (hj : h.length ≤ j) (o : Ob) : Gr h (h'.set j o) := ⟨by simpa using x.le, fun i hi => by rw [List.getElem?_set_ne (by omega), x.at_ i hi]⟩
theorem get_lt {h : MH} {i : Nat} {o : Ob} (e : h[i]? = some o) : i < h.length := (List.getElem?_eq_some_iff.mp e).1
theorem Gr.get {h h' : MH} (x : Gr h h') {i : Nat} {o : Ob} (e : h[i]? = some o) : h'[i]? = some o := (x.at_ i (get_lt e)).trans e
theorem Gr.lst {h h' : MH} (x : Gr h h') {i : Nat} {xs : List W} (e : lstAt h i = some xs) : lstAt h' i = some xs := by
  rw [← e]; unfold lstAt; rw [x.at_ i (lst_lt e)]
theorem Gr.fr {h h' : MH} (x : Gr h h') {b : Nat} : Fr b h h' := ⟨x.le, fun i _ hi => x.at_ i hi⟩
theorem Fr.get {b : Nat} {h h' : MH} (x : Fr b h h') {i : Nat} {o : Ob} (hi : i ≠ b) (e : h[i]? = some o) : h'[i]? = some o := (x.at_ i hi (get_lt e)).trans e
/-- what changes only things behind a mark -/
theorem Fr.gr {b : Nat} {h h' : MH} (x : Fr b h h') (hb : h.length ≤ b) : Gr h h' := ⟨x.le, fun i hi => x.at_ i (by omega) hi⟩
theorem set_back {h : MH} {i : Nat} {o p : Ob} (e : h[i]? = some o) : (h.set i p).set i o = h := by
  rw [List.set_set]
  obtain ⟨hi, e⟩ := List.getElem?_eq_some_iff.mp e
  rw [← e, List.set_getElem_self]
/-- a comprehension of integers to integers -/
theorem dc_map {mi : MI} {g : GM} {mk m : EM} {σ : MS} {h0 : MH} (ks : List Int) (f : Int → Int) (n : ks.Nodup) (hz : ks.length ≤ sizeLine) (hw : ∀ i acc, mi.nx i (h0 ++ [.dct acc]) = some (ks[i]?.map W.int))
    (hb : ∀ k ∈ ks, ∀ acc, ∃ σ1, g (.int k) σ (h0 ++ [.dct acc]) = some σ1 ∧ mk σ1 (h0 ++ [.dct acc]) = .ok (.int k) (h0 ++ [.dct acc]) ∧ m σ1 (h0 ++ [.dct acc]) = .ok (.int (f k)) (h0 ++ [.dct acc])) :
    dcGo mi g tYesM mk m σ h0.length ks.length 0 (h0 ++ [.dct []]) = .ok (.ref h0.length) (h0 ++ [.dct (D (ks.map fun k => (k, f k)))]) := by
  have go : ∀ (fu i : Nat), i + fu = ks.length → dcGo mi g tYesM mk m σ h0.length fu i (h0 ++ [.dct (D ((ks.take i).map fun k => (k, f k)))]) = .ok (.ref h0.length) (h0 ++ [.dct (D (ks.map fun k => (k, f k)))]) := by
    intro fu
    induction fu with
    | zero =>
      intro i e
      have e : i = ks.length := by omega
      subst e
      simp [dcGo, hw]
    | succ fu ih =>
      intro i e
      have hi : i < ks.length := by omega
      obtain ⟨σ1, e1, e2, e3⟩ := hb ks[i] (List.getElem_mem hi) (D ((ks.take i).map fun k => (k, f k)))
      have tk : ks.take (i + 1) = ks.take i ++ [ks[i]] := by simp [hi]
      have nw : putM ((ks.take i).map fun k => (k, f k)) ks[i] (f ks[i]) = (ks.take (i + 1)).map fun k => (k, f k) := by
        have hn : valM ((ks.take i).map fun k => (k, f k)) ks[i] = none := val_none.mpr fun z => by
          rw [List.map_map] at z
          obtain ⟨k, hk, ek⟩ := List.mem_map.mp z
          have ek : k = ks[i] := ek
          subst ek
          rw [← List.take_append_drop i ks, List.nodup_append] at n
          exact n.2.2 _ hk _ (by rw [List.drop_eq_getElem_cons hi]; exact .head _) rfl
        unfold putM
        rw [any_val, hn, tk, List.map_append]
        exact if_neg Bool.false_ne_true
      have hl : (D ((ks.take i).map fun k => (k, f k))).length < sizeLine := by
        rw [D_len, List.length_map, List.length_take]; omega
      have fin := ih (i + 1) (by omega)
      rw [← nw, ← D_put] at fin
      unfold dcGo
      simp only [hw, List.getElem?_eq_getElem hi, Option.map_some, e1]
      simp only [ev_yes, R.nox_ok, R.bind_ok, if_true, e2, e3, at_end, keyOf, if_pos hl, set_end]
      exact fin
  exact go ks.length 0 (by omega)
/-- a loop over a locked dict that only looks -/
theorem lck_for {i : Nat} {h : MH} {l : DI} {g : GM} {body : SM} {me : EM} {σ0 : MS} (I : MS → Prop) (e : h[i]? = some (.dct (D l))) (ch : chE me σ0 h = some i) (hm : me σ0 (h.set i (.lck (D l))) = .ok (.ref i) (h.set i (.lck (D l)))) (h0 : I σ0)
    (step : ∀ σ p, p ∈ l → I σ → ∃ σ1 σ2, g (.tup [.int p.1, .int p.2]) σ (h.set i (.lck (D l))) = some σ1 ∧ body σ1 (h.set i (.lck (D l))) = .nx σ2 (h.set i (.lck (D l))) ∧ I σ2) :
    ∃ σ', sLk (chE me) (sFor (iDct itI me) g body) σ0 h = .nx σ' h ∧ I σ' := by
  have hi := get_lt e
  have lk : (h.set i (.lck (D l)))[i]? = some (.lck (D l)) := List.getElem?_set_self hi
  have la : lckAt (h.set i (.lck (D l))) i = some (D l) := by unfold lckAt; rw [lk]
  obtain ⟨σ', h', e1, ⟨i1, i2⟩⟩ := for_inv (mi := itI (D l)) (g := g) (body := body) (fun _ σ hh => I σ ∧ hh = h.set i (.lck (D l))) (D l).length
    (fun σ hh ⟨_, eh⟩ => by simp [itI]) (fun k σ hh hk ⟨hI, eh⟩ => by
      subst eh
      have hk2 : k < l.length := by rw [D_len] at hk; exact hk
      obtain ⟨σ1, σ2, s1, s2, s3⟩ := step σ l[k] (List.getElem_mem hk2) hI
      refine ⟨.tup [.int l[k].1, .int l[k].2], σ1, ?_, s1, σ2, _, s2, s3, rfl⟩
      simp [itI, D, hk2, keyW]) (D l).length 0 σ0 _ (by omega) ⟨h0, rfl⟩
  subst i2
  refine ⟨σ', ?_, i1⟩
  have fu : (itI (D l)).fuel = (D l).length := rfl
  unfold sLk
  simp only [ch, e, ev_for, ev_idct, hm, R.bind_ok, onLck, la, R.st_ok, fu, e1]
  unfold unlS unl
  simp only [lk, set_back e]
end PM
/-! Sm35: lists of integers: ==, repr, in. -/
noncomputable section
namespace PM
open PySem PySem.Spec L2
theorem data_ints {h : MH} {n : Nat} : ∀ l : List Int, mapO (dataW h n) (l.map W.int) = some (l.map PyData.int)
  | [] => rfl
  | x :: l => by simp [data_ints l]
theorem shaped_ints (l : List Int) : SeqAt.shaped (.list (l.map PyData.int)) = true := by
  have h1 : PyData.canLayAll0 (l.map PyData.int) = true := by
    induction l with
    | nil => rfl
    | cons x r ih => simp [PyData.canLayAll0, PyData.canLay0, ih]
  have h2 : PyData.depthAll (l.map PyData.int) = 0 := by
    clear h1
    induction l with
    | nil => rfl
    | cons x r ih => simp [PyData.depthAll, PyData.depth, ih]
  simp [SeqAt.shaped, PyData.canLay0, PyData.depth, h1, h2]
theorem eqvAll_ints : ∀ l m : List Int, PyData.eqvAll (l.map PyData.int) (m.map PyData.int) = decide (l = m)
  | [], [] => by simp [PyData.eqvAll]
  | [], y :: m => by simp [PyData.eqvAll]
  | x :: l, [] => by simp [PyData.eqvAll]
  | x :: l, y :: m => by
    simp [PyData.eqvAll, eqv_int, eqvAll_ints l m]
    by_cases h : x = y
    · simp [h]
    · simp [h]
section
variable {i j : Nat} {h : MH} {l m : List Int}
theorem eq_ints (hi : lstAt h i = some (l.map W.int)) (hj : lstAt h j = some (m.map W.int)) : bEq (.ref i) (.ref j) h = .ok (.bl (decide (l = m))) h := by
  refine (eq_of_data rfl (data_ref hi (data_ints l)) (data_ref hj (data_ints m)) (shaped_ints l) (shaped_ints m)).trans ?_
  rw [PyData.eqv, eqvAll_ints]
theorem ne_ints (hi : lstAt h i = some (l.map W.int)) (hj : lstAt h j = some (m.map W.int)) : bNe (.ref i) (.ref j) h = .ok (.bl (!decide (l = m))) h := by
  refine (ne_of_data rfl (data_ref hi (data_ints l)) (data_ref hj (data_ints m)) (shaped_ints l) (shaped_ints m)).trans ?_
  rw [PyData.eqv, eqvAll_ints]
theorem nex_l {f : W → W → MH → R W} {xs : List W} {y : W} (e : lstAt h i = some xs) : bNeX f (.ref i) y h = bNe (.ref i) y h := by
  unfold bNeX; rw [byK_l e]
theorem eqx_l {f : W → W → MH → R W} {xs : List W} {y : W} (e : lstAt h i = some xs) : bEqX f (.ref i) y h = bEq (.ref i) y h := by
  unfold bEqX; rw [byK_l e]
theorem nex_d {f : W → W → MH → R W} {kvs : List (Key × W)} {y : W} (e : dctAt h i = some kvs) : bNeX f (.ref i) y h = bEqD true (.ref i) y h := by
  unfold bNeX; rw [byK_d e]
theorem eqx_d {f : W → W → MH → R W} {kvs : List (Key × W)} {y : W} (e : dctAt h i = some kvs) : bEqX f (.ref i) y h = bEqD false (.ref i) y h := by
  unfold bEqX; rw [byK_d e]
theorem nex_i {f : W → W → MH → R W} {C : Str} {fs : List (Str × W)} {y : W} (e : insAt h i = some (C, fs)) : bNeX f (.ref i) y h = f (.ref i) y h := by
  unfold bNeX; rw [byK_i e]
theorem eqx_i {f : W → W → MH → R W} {C : Str} {fs : List (Str × W)} {y : W} (e : insAt h i = some (C, fs)) : bEqX f (.ref i) y h = f (.ref i) y h := by
  unfold bEqX; rw [byK_i e]
/-- repr of a list of integers, none longer than n signs -/
def reprI (l : List Int) : Str := PyData.shown (.list (l.map PyData.int))
theorem repr_ints (n : Nat) (hi : lstAt h i = some (l.map W.int)) (hs : ∀ k ∈ l, k.natAbs < 2 ^ 64 ∧ (toString k : Str).length ≤ n) (hz : l.length * (n + 2) + 3 ≤ 16777216) : bRepr [.ref i] h = .ok (.str (reprI l)) h := by
  have s1 : PyData.showableAll (l.map PyData.int) = true := by
    clear hz hi
    induction l with
    | nil => rfl
    | cons x r ih =>
      have := log2_lt64 (hs x (.head _)).1
      simp [PyData.showableAll, PyData.showable, ih fun k hk => hs k (.tail _ hk)]
      omega
  have s2 : PyData.hasDictAll (l.map PyData.int) = false := by
    clear hz hi hs s1
    induction l with
    | nil => rfl
    | cons x r ih => simp [PyData.hasDictAll, PyData.hasDict, ih]
  have s3 : PyData.depthAll (l.map PyData.int) = 0 := by
    clear hz hi hs s1 s2
    induction l with
    | nil => rfl
    | cons x r ih => simp [PyData.depthAll, PyData.depth, ih]
  have s4 : PyData.shownAll (l.map PyData.int) = l.map fun (k : Int) => (toString k : Str) := by
    clear hz hi hs s1 s2 s3
    induction l with
    | nil => rfl
    | cons x r ih => simp [PyData.shownAll, PyData.shown, ih]
  have s5 : (reprI l).length ≤ sizeLine := by
    unfold reprI
    rw [PyData.shown, s4, line_eq]
    refine Nat.le_trans (listText_len_le _) ?_
    have : ∀ l : List Int, (∀ k ∈ l, (toString k : Str).length ≤ n) → ((l.map fun (k : Int) => (toString k : Str)).map (·.length)).sum ≤ l.length * n := fun l hl => by
      induction l with
      | nil => simp
      | cons x r ih =>
        have h1 := hl x (.head _)
        have h2 := ih fun k hk => hl k (.tail _ hk)
        simp only [List.map_cons, List.sum_cons, List.length_cons, Nat.succ_mul]
        omega
    have := this l fun k hk => (hs k hk).2
    rw [List.length_map]
    have e : l.length * (n + 2) = l.length * n + 2 * l.length := by rw [Nat.mul_add, Nat.mul_comm l.length 2]
    omega
  unfold reprI at s5 ⊢
  simp [bRepr, data_ref hi (data_ints l), PyData.showable, PyData.hasDict, PyData.depth, s1, s2, s3, s5]
end
/-- two signs are enough below 100 -/
theorem shown_small {k : Int} (h0 : 0 ≤ k) (h1 : k < 100) : (toString k : Str).length ≤ 2 := by
  have : ∀ n : Fin 100, (toString ((n.val : Nat) : Int) : Str).length ≤ 2 := by decide +kernel
  have e : k = ((k.toNat : Nat) : Int) := by omega
  rw [e]
  exact this ⟨k.toNat, by omega⟩
/-- a function's run: its slots, its body -/
theorem run_f {np n : Nat} {body : SM} {ws : List W} {σ : MS} {h h' : MH} {w : W} (hl : ws.length = np) (e : ws.map some ++ List.replicate (n - np) none = σ) (r : body σ h = .rt w h') : mkF np n body ws h = .ok w h' := by
  unfold mkF
  rw [if_pos hl, e, r]
end PM
/-! Sm36: what a part has laid is frozen, or handed on alone; the rest is dropped. -/
noncomputable section
namespace PM
open PySem PySem.Spec L2
open PyProof.Rows hiding St
/-- no number from n on -/
inductive Cls (n : Nat) : W → Prop
  | non : Cls n .non
  | bl (k : Bool) : Cls n (.bl k)
  | int (i : Int) : Cls n (.int i)
  | str (x : Str) : Cls n (.str x)
  | ty (x : String) : Cls n (.ty x)
  | glo (x : Str) : Cls n (.glo x)
  | ref (i : Nat) : i < n → Cls n (.ref i)
  | tup (xs : List W) : (∀ x ∈ xs, Cls n x) → Cls n (.tup xs)
  | vl (xs : List W) : (∀ x ∈ xs, Cls n x) → Cls n (.vl xs)
  | vd (kvs : List (Key × W)) : (∀ p ∈ kvs, Cls n p.2) → Cls n (.vd kvs)
  | vi (C : Str) (fs : List (Str × W)) : (∀ p ∈ fs, Cls n p.2) → Cls n (.vi C fs)
def ClsO (n : Nat) : Ob → Prop
  | .lst xs => ∀ x ∈ xs, Cls n x
  | .ro xs => ∀ x ∈ xs, Cls n x
  | .dct kvs => ∀ p ∈ kvs, Cls n p.2
  | .lck kvs => ∀ p ∈ kvs, Cls n p.2
  | .ins _ fs => ∀ p ∈ fs, Cls n p.2
section
variable {K : PySem.W.Frag} {b c : Bs}
mutual
theorem Rl.clo : ∀ {w : W} {v : V}, Rl K b w v → Cls b.n w
  | _, _, .non => .non
  | _, _, .bl k => .bl k
  | _, _, .int k => .int k
  | _, _, .str k => .str k
  | _, _, .ty k => .ty k
  | _, _, .ref i h => .ref i h
  | _, _, .glo y => .glo y
  | _, _, .tup a ws vs h r => .tup _ (Rls.clo r)
  | _, _, .vl a ws vs h r => .vl _ (Rls.clo r)
  | _, _, .vd a kvs ps h e r => .vd _ fun p hp => Rls.clo r p.2 (List.mem_map.mpr ⟨p, hp, rfl⟩)
  | _, _, .vi a C fs dx ps h e r => .vi _ _ fun p hp => Rls.clo r p.2 (List.mem_map.mpr ⟨p, hp, rfl⟩)
theorem Rls.clo : ∀ {ws : List W} {vs : List V}, Rls K b ws vs → ∀ x ∈ ws, Cls b.n x
  | _, _, .nil => fun x h => nomatch h
  | _, _, .cons h t => fun x hx => (List.mem_cons.mp hx).elim (fun e => e ▸ Rl.clo h) (Rls.clo t x)
end
theorem ObR.clo {i : Nat} {o : Ob} (r : ObR K b i o) : ClsO b.n o := by
  cases o with
  | lst xs => obtain ⟨vs, _, r⟩ := r; exact r.clo
  | ro xs => obtain ⟨vs, _, r⟩ := r; exact r.clo
  | dct kvs => obtain ⟨ps, _, r⟩ := r; exact fun p hp => r.2.clo p.2 (List.mem_map.mpr ⟨p, hp, rfl⟩)
  | lck kvs => obtain ⟨o, ps, _, r⟩ := r; exact fun p hp => r.2.clo p.2 (List.mem_map.mpr ⟨p, hp, rfl⟩)
  | ins C fs => obtain ⟨dx, ps, _, r⟩ := r; exact fun p hp => r.2.clo p.2 (List.mem_map.mpr ⟨p, hp, rfl⟩)
/-- c, with fewer numbers and more frozen things -/
structure Cu (K : PySem.W.Frag) (c d : Bs) : Prop where
  ix : ∀ i, i < d.n → d.at_ i = c.at_ i
  H : d.H = c.H
  zz : ∀ a u, c.Z a = some u → d.Z a = some u
variable {d : Bs}
mutual
theorem Rl.cu (x : Cu K c d) : ∀ {w : W} {v : V}, Rl K c w v → Cls d.n w → Rl K d w v
  | _, _, .non, _ => .non
  | _, _, .bl k, _ => .bl k
  | _, _, .int k, _ => .int k
  | _, _, .str k, _ => .str k
  | _, _, .ty k, _ => .ty k
  | _, _, .ref i h, q => by
    cases q with
    | ref _ q => rw [← x.ix i q]; exact .ref i q
  | _, _, .glo y, _ => .glo y
  | _, _, .tup a ws vs h r, q => .tup a ws vs (by rw [x.H]; exact h) (Rls.cu x r (by cases q with | tup _ q => exact q))
  | _, _, .vl a ws vs h r, q => .vl a ws vs (x.zz _ _ h) (Rls.cu x r (by cases q with | vl _ q => exact q))
  | _, _, .vd a kvs ps h e r, q => .vd a kvs ps (x.zz _ _ h) e (Rls.cu x r (by cases q with | vd _ q => exact fun y hy => let ⟨p, hp, e⟩ := List.mem_map.mp hy; e ▸ q p hp))
  | _, _, .vi a C fs dx ps h e r, q => .vi a C fs dx ps (x.zz _ _ h) e (Rls.cu x r (by cases q with | vi _ _ q => exact fun y hy => let ⟨p, hp, e⟩ := List.mem_map.mp hy; e ▸ q p hp))
theorem Rls.cu (x : Cu K c d) : ∀ {ws : List W} {vs : List V}, Rls K c ws vs → (∀ y ∈ ws, Cls d.n y) → Rls K d ws vs
  | _, _, .nil, _ => .nil
  | _, _, .cons h t, q => .cons (Rl.cu x h (q _ (.head _))) (Rls.cu x t fun y hy => q y (.tail _ hy))
end
theorem Rlk.cu {κ : Type} (x : Cu K c d) {kvs : List (κ × W)} {ps : List (κ × V)} (r : Rlk K c kvs ps) (q : ∀ p ∈ kvs, Cls d.n p.2) : Rlk K d kvs ps :=
  ⟨r.1, r.2.cu x fun y hy => let ⟨p, hp, e⟩ := List.mem_map.mp hy; e ▸ q p hp⟩
theorem ObR.cu {i : Nat} {o : Ob} (x : Cu K c d) (hi : i < d.n) (r : ObR K c i o) (q : ClsO d.n o) : ObR K d i o := by
  have e := x.ix i hi
  cases o with
  | lst ws => obtain ⟨vs, h1, r⟩ := r; exact ⟨vs, by rw [e, x.H]; exact h1, r.cu x q⟩
  | dct kvs => obtain ⟨ps, h1, r⟩ := r; exact ⟨ps, by rw [e, x.H]; exact h1, r.cu x q⟩
  | lck kvs => obtain ⟨o, ps, h1, r⟩ := r; exact ⟨o, ps, by rw [e, x.H]; exact h1, r.cu x q⟩
  | ins C fs => obtain ⟨dx, ps, h1, r⟩ := r; exact ⟨dx, ps, by rw [e, x.H]; exact h1, r.cu x q⟩
  | ro ws => obtain ⟨vs, h1, r⟩ := r; exact ⟨vs, by rw [e, x.H]; exact h1, r.cu x q⟩
end
def mapV {κ α β : Type} (f : α → Option β) (l : List (κ × α)) : Option (List (κ × β)) := mapO (fun p => (f p.2).map fun y => (p.1, y)) l
open Classical in
/-- what is reached from n on, but ex, as a value -/
def fzW (h : MH) (n ex : Nat) : Nat → W → Option W
  | 0, w => if Cls n w then some w else none
  | k + 1, w => if Cls n w then some w else match w with
    | .ref i => if i = ex then none else match h[i]? with
      | some (.lst xs) => (mapO (fzW h n ex k) xs).map .vl
      | some (.dct kvs) => (mapV (fzW h n ex k) kvs).map .vd
      | some (.ins C fs) => (mapV (fzW h n ex k) fs).map (.vi C)
      | _ => none
    | .tup xs => (mapO (fzW h n ex k) xs).map .tup
    | .vl xs => (mapO (fzW h n ex k) xs).map .vl
    | .vd kvs => (mapV (fzW h n ex k) kvs).map .vd
    | .vi C fs => (mapV (fzW h n ex k) fs).map (.vi C)
    | _ => none
def fzO (h : MH) (n ex : Nat) : Ob → Option Ob
  | .lst xs => (mapO (fzW h n ex 20) xs).map .lst
  | .dct kvs => (mapV (fzW h n ex 20) kvs).map .dct
  | .ins C fs => (mapV (fzW h n ex 20) fs).map (.ins C)
  | _ => none
/-- what stood ahead knows of nothing new -/
def Old (h h' : MH) : Prop := h.length ≤ h'.length ∧ ∀ i, i < h.length → h'[i]? = h[i]? ∨ ∀ o, h'[i]? = some o → ClsO h.length o
open Classical in
def finX (h : MH) (x : Xn) (h' : MH) : R W := if Old h h' then match mapV (fzW h' h.length h'.length 20) x.fs with
  | some fs => .exc ⟨x.c, fs⟩ (h'.take h.length)
  | none => .stuck else .stuck
open Classical in
/-- all that is new is frozen -/
def fin (h : MH) : R W → R W
  | .ok w h' => if Old h h' then match fzW h' h.length h'.length 20 w with
    | some w' => .ok w' (h'.take h.length)
    | none => .stuck else .stuck
  | .exc x h' => finX h x h'
  | .stuck => .stuck
open Classical in
/-- but the thing itself that is handed back -/
def own (h : MH) : R W → R W
  | .ok (.ref j) h' => if Old h h' ∧ h.length ≤ j then match h'[j]? with
    | some o => match fzO h' h.length j o with
      | some o' => .ok (.ref h.length) (h'.take h.length ++ [o'])
      | none => .stuck
    | none => .stuck else .stuck
  | .ok _ _ => .stuck
  | .exc x h' => finX h x h'
  | .stuck => .stuck
section
variable {K : PySem.W.Frag} {b c : Bs} {h h' : MH}
open Classical in
/-- the world behind -/
def Bs.fz (c : Bs) (h' : MH) (n ex : Nat) : Bs := ⟨c.at_, n, c.H, fun a => if ∃ i o, n ≤ i ∧ i ≠ ex ∧ h'[i]? = some o ∧ o.rw = true ∧ c.at_ i = a then c.H a else c.Z a⟩
theorem Bs.fz_pos {n ex i : Nat} {o : Ob} (hn : n ≤ i) (ne : i ≠ ex) (e : h'[i]? = some o) (hr : o.rw = true) : (c.fz h' n ex).Z (c.at_ i) = c.H (c.at_ i) := if_pos ⟨i, o, hn, ne, e, hr, rfl⟩
theorem Bs.fz_neg {n ex : Nat} {a : Addr} (S : Sim K c h') {u : HO} (e : c.Z a = some u) : (c.fz h' n ex).Z a = some u := by
  unfold Bs.fz
  dsimp only
  rw [if_neg]
  · exact e
  · rintro ⟨i, o, _, _, e2, hr, rfl⟩
    rw [S.zd i o e2 (Ob.mine_of hr)] at e; cases e
theorem Bs.fz_none {n ex i : Nat} {o : Ob} (S : Sim K c h') (e : h'[i]? = some o) (hm : o.mine = true) (hi : i < n ∨ i = ex) : (c.fz h' n ex).Z (c.at_ i) = none := by
  unfold Bs.fz
  dsimp only
  rw [if_neg]
  · exact S.zd i o e hm
  · rintro ⟨j, u, h1, h2, e2, hr, ea⟩
    have := S.inj j i u o e2 e (Ob.mine_of hr) hm ea
    subst this
    omega
theorem Bs.fz_cu {n ex : Nat} (S : Sim K c h') : Cu K c (c.fz h' n ex) := ⟨fun _ _ => rfl, rfl, fun a u e => Bs.fz_neg S e⟩
theorem rls_mapO {d : Bs} {f : W → Option W} (ih : ∀ w v w', Rl K c w v → f w = some w' → Rl K d w' v) : ∀ {ws : List W} {vs : List V} {ws' : List W}, Rls K c ws vs → mapO f ws = some ws' → Rls K d ws' vs
  | _, _, _, .nil, e => by cases e; exact .nil
  | w :: ws, _, ws', .cons r rr, e => by
    unfold mapO at e
    cases e1 : f w with
    | none => rw [e1] at e; cases e
    | some d' =>
      rw [e1] at e
      cases e2 : mapO f ws with
      | none => rw [e2] at e; cases e
      | some es => rw [e2] at e; cases e; exact .cons (ih _ _ _ r e1) (rls_mapO ih rr e2)
theorem rlk_mapV {κ : Type} {d : Bs} {f : W → Option W} (ih : ∀ w v w', Rl K c w v → f w = some w' → Rl K d w' v) : ∀ {ws : List (κ × W)} {vs : List (κ × V)} {ws' : List (κ × W)}, Rlk K c ws vs → mapV f ws = some ws' → Rlk K d ws' vs
  | [], vs, ws', r, e => by rw [r.inv_nil]; cases e; exact .nil
  | (k, w) :: ws, vs, ws', r, e => by
    obtain ⟨v, qs, rfl, r1, r2⟩ := r.inv
    unfold mapV mapO at e
    dsimp only at e
    cases e1 : f w with
    | none => rw [e1] at e; cases e
    | some d' =>
      rw [e1] at e
      cases e2 : mapV f ws with
      | none => unfold mapV at e2; rw [e2] at e; cases e
      | some es =>
        have e3 := e2
        unfold mapV at e2; rw [e2] at e; cases e; exact .cons (ih _ _ _ r1 e1) (rlk_mapV ih r2 e3)
theorem fz_ok {n ex : Nat} (S : Sim K c h') : ∀ (k : Nat) (w : W) (v : V) (w' : W), Rl K c w v → fzW h' n ex k w = some w' → Rl K (c.fz h' n ex) w' v := by
  intro k
  induction k with
  | zero =>
    intro w v w' r e
    unfold fzW at e
    split at e
    · rename_i q; cases e; exact r.cu (Bs.fz_cu S) q
    · cases e
  | succ k ih =>
    intro w v w' r e
    unfold fzW at e
    split at e
    · rename_i q; cases e; exact r.cu (Bs.fz_cu S) q
    rename_i nq
    cases r with
    | ref i hi =>
      dsimp only at e
      have hn : n ≤ i := Nat.le_of_not_lt fun z => nq (.ref i z)
      split at e
      · cases e
      rename_i ne
      split at e
      · rename_i xs q
        obtain ⟨ys, e1, rfl⟩ := Option.map_eq_some_iff.mp e
        obtain ⟨vs, h1, r⟩ := S.ob i _ q
        exact .vl _ ys vs ((Bs.fz_pos hn ne q rfl).trans h1) (rls_mapO ih r e1)
      · rename_i xs q
        obtain ⟨ys, e1, rfl⟩ := Option.map_eq_some_iff.mp e
        obtain ⟨ps, h1, r⟩ := S.ob i _ q
        have r' := rlk_mapV ih r e1
        exact .vd _ ys ps ((Bs.fz_pos hn ne q rfl).trans h1) r'.1 r'.2
      · rename_i C xs q
        obtain ⟨ys, e1, rfl⟩ := Option.map_eq_some_iff.mp e
        obtain ⟨dx, ps, h1, r⟩ := S.ob i _ q
        have r' := rlk_mapV ih r e1
        exact .vi _ C ys dx ps ((Bs.fz_pos hn ne q rfl).trans h1) r'.1 r'.2
      · cases e
    | tup a ws vs hs r =>
      obtain ⟨ys, e1, rfl⟩ := Option.map_eq_some_iff.mp e
      exact .tup a ys vs hs (rls_mapO ih r e1)
    | vl a ws vs z r =>
      obtain ⟨ys, e1, rfl⟩ := Option.map_eq_some_iff.mp e
      exact .vl a ys vs (Bs.fz_neg S z) (rls_mapO ih r e1)
    | vd a kvs ps z e0 r =>
      obtain ⟨ys, e1, rfl⟩ := Option.map_eq_some_iff.mp e
      have r' := rlk_mapV (c := c) ih ⟨e0, r⟩ e1
      exact .vd a ys ps (Bs.fz_neg S z) r'.1 r'.2
    | vi a C fs dx ps z e0 r =>
      obtain ⟨ys, e1, rfl⟩ := Option.map_eq_some_iff.mp e
      have r' := rlk_mapV (c := c) ih ⟨e0, r⟩ e1
      exact .vi a C ys dx ps (Bs.fz_neg S z) r'.1 r'.2
    | _ => first | cases e | exact absurd (by constructor) nq
theorem fz_sim {ex : Nat} (S0 : Sim K b h) (x : Ext K b c) (S : Sim K c h') (O : Old h h') : PM.Ext K b (c.fz h' h.length ex) ∧ Sim K (c.fz h' h.length ex) (h'.take h.length) := by
  have cu : Cu K c (c.fz h' h.length ex) := Bs.fz_cu S
  have get : ∀ i, i < h.length → (h'.take h.length)[i]? = h'[i]? := fun i hi => by rw [List.getElem?_take, if_pos hi]
  have lt : ∀ {i o}, (h'.take h.length)[i]? = some o → i < h.length := fun {i o} e => by
    have := (List.getElem?_eq_some_iff.mp e).1
    rw [List.length_take] at this
    omega
  refine ⟨⟨Nat.le_of_eq S0.len, x.ix, x.tp, x.fz, fun a u e => Bs.fz_neg S (x.zz a u e)⟩, ?_, fun i o e => ?_, fun i j o u e1 e2 m1 m2 q => ?_, fun a u e => ?_, fun i o e m => ?_⟩
  · rw [List.length_take, Nat.min_eq_left O.1]
    rfl
  · have hi := lt e
    rw [get i hi] at e
    refine (S.ob i o e).cu cu hi ?_
    rcases O.2 i hi with q | q
    · rw [e] at q
      have := (S0.ob i o q.symm).clo
      rw [S0.len] at this
      exact this
    · exact q o e
  · have hi := lt e1
    have hj := lt e2
    rw [get i hi] at e1
    rw [get j hj] at e2
    exact S.inj i j o u e1 e2 m1 m2 q
  · show Zok c.H a u
    unfold Bs.fz at e
    dsimp only at e
    split at e
    · rename_i q
      obtain ⟨i, o, _, _, q, hr, rfl⟩ := q
      have := S.ob i o q
      cases o with
      | lst xs => obtain ⟨vs, h1, _⟩ := this; rw [h1] at e; cases e; exact h1
      | dct xs => obtain ⟨vs, h1, _⟩ := this; rw [h1] at e; cases e; exact .inl h1
      | ins C xs => obtain ⟨dx, vs, h1, _⟩ := this; rw [h1] at e; cases e; exact h1
      | _ => cases hr
    · exact S.zh a u e
  · have hi := lt e
    rw [get i hi] at e
    exact Bs.fz_none S e m (.inl hi)
theorem finX_post {We : Value → Option Addr → Hp → Prop} {Q : V → Hp → Prop} {x : Xn} (S : Sim K b h) (q : Post K (Rl K) We b Q (finX h x h')) : Post K (Rl K) We b Q (.exc x h') := by
  unfold finX at q
  split at q
  · rename_i O
    split at q
    · rename_i fs e
      intro c d ex s r
      obtain ⟨x2, s2⟩ := fz_sim (ex := h'.length) S ex s O
      refine q (c.fz h' h.length h'.length) d x2 s2 ?_
      have e : mapV (fzW h' h.length h'.length 20) x.fs = some fs := e
      cases hx : x.fs with
      | nil =>
        rw [hx] at e
        unfold mapV mapO at e
        cases e
        unfold XfR at r ⊢
        rw [hx] at r
        exact r
      | cons p l =>
        have r : ∃ a ps, d = some a ∧ c.H a = some (.xd ps) ∧ Rlk K c x.fs ps := by
          unfold XfR at r
          rw [hx] at r
          rw [hx]
          exact r
        obtain ⟨a, ps, ed, h1, rk⟩ := r
        have rk' := rlk_mapV (fz_ok (n := h.length) (ex := h'.length) s 20) rk e
        have : ∃ a ps, d = some a ∧ (c.fz h' h.length h'.length).H a = some (.xd ps) ∧ Rlk K (c.fz h' h.length h'.length) fs ps := ⟨a, ps, ed, h1, rk'⟩
        unfold XfR
        cases fs with
        | nil =>
          exfalso
          have l1 := rk.len
          have l2 := rk'.len
          rw [hx] at l1
          rw [l1] at l2
          simp at l2
        | cons _ _ => exact this
    · exact q.elim
  · exact q.elim
theorem fin_post {We : Value → Option Addr → Hp → Prop} {Q : V → Hp → Prop} {r : R W} (S : Sim K b h) (q : Post K (Rl K) We b Q (fin h r)) : Post K (Rl K) We b Q r := by
  cases r with
  | ok w h' =>
    unfold fin at q
    dsimp only at q
    split at q
    · rename_i O
      split at q
      · rename_i w' e
        intro c v ex s r
        obtain ⟨x2, s2⟩ := fz_sim (ex := h'.length) S ex s O
        exact q (c.fz h' h.length h'.length) v x2 s2 (fz_ok s 20 w v w' r e)
      · exact q.elim
    · exact q.elim
  | exc x h' => exact finX_post S q
  | stuck => exact q
theorem own_post {We : Value → Option Addr → Hp → Prop} {Q : V → Hp → Prop} {r : R W} (S : Sim K b h) (q : Post K (Rl K) We b Q (own h r)) : Post K (Rl K) We b Q r := by
  cases r with
  | ok w h' =>
    cases w with
    | ref j =>
      unfold own at q
      dsimp only at q
      split at q
      · rename_i O
        obtain ⟨O, hj⟩ := O
        split at q
        · rename_i o ej
          split at q
          · rename_i o' eo
            intro c v ex s r
            cases r with
            | ref _ hjc =>
              obtain ⟨x2, s2⟩ := fz_sim (ex := j) S ex s O
              have or : o.rw = true := by
                cases o <;> first | rfl | (cases eo)
              have zn := Bs.fz_none (n := h.length) (ex := j) s ej (Ob.mine_of or) (.inr rfl)
              have c2n : (c.fz h' h.length j).n = h.length := rfl
              let c3 : Bs := ⟨fun i => if i = h.length then c.at_ j else c.at_ i, h.length + 1, c.H, (c.fz h' h.length j).Z⟩
              have a3 : c3.at_ h.length = c.at_ j := if_pos rfl
              have al : ∀ i, i < h.length → c3.at_ i = c.at_ i := fun i hi => if_neg (Nat.ne_of_lt hi)
              have x3 : PM.Ext K (c.fz h' h.length j) c3 := ⟨Nat.le_succ _, al, fun _ _ z => z, fun _ _ _ z => z, fun _ _ z => z⟩
              have tl : (h'.take h.length).length = h.length := by rw [List.length_take, Nat.min_eq_left O.1]
              have ob3 : ObR K c3 h.length o' := by
                have r0 := s.ob j o ej
                cases o with
                | lst xs =>
                  obtain ⟨vs, h1, r0⟩ := r0
                  obtain ⟨ys, e1, rfl⟩ := Option.map_eq_some_iff.mp eo
                  exact ⟨vs, by rw [a3]; exact h1, (rls_mapO (fz_ok s 20) r0 e1).ext x3⟩
                | dct xs =>
                  obtain ⟨vs, h1, r0⟩ := r0
                  obtain ⟨ys, e1, rfl⟩ := Option.map_eq_some_iff.mp eo
                  exact ⟨vs, by rw [a3]; exact h1, (rlk_mapV (fz_ok s 20) r0 e1).ext x3⟩
                | ins C xs =>
                  obtain ⟨dx, vs, h1, r0⟩ := r0
                  obtain ⟨ys, e1, rfl⟩ := Option.map_eq_some_iff.mp eo
                  exact ⟨dx, vs, by rw [a3]; exact h1, (rlk_mapV (fz_ok s 20) r0 e1).ext x3⟩
                | _ => cases eo
              have key : ∀ i u, (h'.take h.length ++ [o'])[i]? = some u → u.mine = true → (i = h.length ∧ c3.at_ i = c.at_ j) ∨ (i < h.length ∧ (h'.take h.length)[i]? = some u ∧ h'[i]? = some u ∧ c3.at_ i = c.at_ i) := fun i u e hm => by
                by_cases hi : i < h.length
                · rw [List.getElem?_append_left (by rw [tl]; exact hi)] at e
                  refine .inr ⟨hi, e, ?_, al i hi⟩
                  rw [List.getElem?_take, if_pos hi] at e
                  exact e
                · have : i = h.length := by
                    have := (List.getElem?_eq_some_iff.mp e).1
                    rw [List.length_append, tl] at this
                    simp at this; omega
                  subst this
                  exact .inl ⟨rfl, a3⟩
              have s3 : Sim K c3 (h'.take h.length ++ [o']) := by
                refine ⟨by rw [List.length_append, tl]; rfl, fun i u e => ?_, fun i k u t e1 e2 m1 m2 q => ?_, s2.zh, fun i u e m => ?_⟩
                · by_cases hi : i < h.length
                  · rw [List.getElem?_append_left (by rw [tl]; exact hi)] at e
                    exact (s2.ob i u e).keep x3 hi fun q _ hq => hq
                  · have : i = h.length := by
                      have := (List.getElem?_eq_some_iff.mp e).1
                      rw [List.length_append, tl] at this
                      simp at this; omega
                    subst this
                    rw [List.getElem?_append_right (by rw [tl]; exact Nat.le_refl _), tl] at e
                    simp at e
                    subst e
                    exact ob3
                · rcases key i u e1 m1 with ⟨k1, k2⟩ | ⟨k1, k2, k3, k4⟩ <;> rcases key k t e2 m2 with ⟨l1, l2⟩ | ⟨l1, l2, l3, l4⟩
                  · rw [k1, l1]
                  · rw [k2, l4] at q
                    have := s.inj j k o t ej l3 (Ob.mine_of or) m2 q
                    omega
                  · rw [k4, l2] at q
                    have := s.inj i j u o k3 ej m1 (Ob.mine_of or) q
                    omega
                  · rw [k4, l4] at q
                    exact s.inj i k u t k3 l3 m1 m2 q
                · show (c.fz h' h.length j).Z (c3.at_ i) = none
                  rcases key i u e m with ⟨k1, k2⟩ | ⟨k1, k2, k3, k4⟩
                  · rw [k2]; exact zn
                  · rw [k4]; exact s2.zd i u k2 m
              have q3 := q c3 (.ref (c.at_ j)) (x2.trans x3) s3 (by
                have := Rl.ref (K := K) (b := c3) h.length (Nat.lt_succ_self _)
                rw [a3] at this
                exact this)
              exact q3
          · exact q.elim
        · exact q.elim
      · exact q.elim
    | _ => exact q.elim
  | exc x h' => exact finX_post S q
  | stuck => exact q
end
end PM
/-! Sm37: parts whose results are frozen, handed on alone. -/
noncomputable section
namespace PM
open PySem PySem.Spec L2
open PyProof.Rows hiding St
def eFz (m : EM) : EM := fun σ h => fin h (m σ h)
def eOw (m : EM) : EM := fun σ h => own h (m σ h)
def fz (m : FM) : FM := fun ws h => fin h (m ws h)
def ow (m : FM) : FM := fun ws h => own h (m ws h)
def fzM (m : List W → List W → MH → R W) : List W → List W → MH → R W := fun ws zs h => fin h (m ws zs h)
def owM (m : List W → List W → MH → R W) : List W → List W → MH → R W := fun ws zs h => own h (m ws zs h)
section
variable {X : Cx} {Wx : WX} {e : Expr} {m : EM} {tgt : Value} {np : Nat} {ks : List Str} {mm : List W → List W → MH → R W} {f : Addr} {m1 : FM}
theorem SE.fz (S : SE X Wx e m) : SE X Wx e (eFz m) := ⟨pe_imp S.pe fun σ H Q ⟨b, h, σm, e, s, l, q⟩ => ⟨b, h, σm, e, s, l, fin_post s q⟩⟩
theorem SE.ow (S : SE X Wx e m) : SE X Wx e (eOw m) := ⟨pe_imp S.pe fun σ H Q ⟨b, h, σm, e, s, l, q⟩ => ⟨b, h, σm, e, s, l, own_post s q⟩⟩
theorem FnG.fz {P : Program} {w : World} {K : PySem.W.Frag} {mg : Str → Option Value} {base : Heap} {k : Nat} {fd : FuncData} {ps : List Str} (F : FnG P w K mg base k f fd ps m1) : FnG P w K mg base k f fd ps (PM.fz m1) :=
  ⟨fun ws h e => by show fin h (m1 ws h) = _; rw [F.len ws h e]; rfl, fun A outer s b h args us vs ws Q E hr hg e0 hb rv S rw q => F.run A outer s b h args us vs ws Q E hr hg e0 hb rv S rw (fin_post S q)⟩
theorem FnG.ow {P : Program} {w : World} {K : PySem.W.Frag} {mg : Str → Option Value} {base : Heap} {k : Nat} {fd : FuncData} {ps : List Str} (F : FnG P w K mg base k f fd ps m1) : FnG P w K mg base k f fd ps (PM.ow m1) :=
  ⟨fun ws h e => by show own h (m1 ws h) = _; rw [F.len ws h e]; rfl, fun A outer s b h args us vs ws Q E hr hg e0 hb rv S rw q => F.run A outer s b h args us vs ws Q E hr hg e0 hb rv S rw (own_post S q)⟩
theorem CalG.fz (c : CalG X Wx tgt np ks mm) : CalG X Wx tgt np ks (fzM mm) := ⟨fun {pins σ b h s Q us zs vs ys ws xs} I rv ry S rw rx q => c.run I rv ry S rw rx (by
  by_cases hc : ws.length = np ∧ xs.length = ks.length
  · rw [if_pos hc] at q ⊢; exact fin_post S q
  · rw [if_neg hc] at q; exact q.elim), c.kp⟩
theorem CalG.ow (c : CalG X Wx tgt np ks mm) : CalG X Wx tgt np ks (owM mm) := ⟨fun {pins σ b h s Q us zs vs ys ws xs} I rv ry S rw rx q => c.run I rv ry S rw rx (by
  by_cases hc : ws.length = np ∧ xs.length = ks.length
  · rw [if_pos hc] at q ⊢; exact own_post S q
  · rw [if_neg hc] at q; exact q.elim), c.kp⟩
theorem CalM.fz (c : CalM X Wx f np m1) : CalM X Wx f np (PM.fz m1) := ⟨fun I rv S rw hl q => c.here I rv S rw hl (fin_post S q), fun I rv S rw hl q => c.in1 I rv S rw hl (fin_post S q)⟩
theorem OpS.fz {fv : Value → Value → Sem Value} {mo : W → W → MH → R W} (o : OpS X Wx fv mo) : OpS X Wx fv (fun x y h => fin h (mo x y h)) := ⟨fun pins s σ b h x y x' y' v u Q I S r1 r2 rv ru q => o.run pins s σ b h x y x' y' v u Q I S r1 r2 rv ru (fin_post S q)⟩
theorem CallS.fz {fv : Value} (o : CallS X Wx fv m1) : CallS X Wx fv (PM.fz m1) := ⟨fun pins s σ b h ws vs us Q I S r rv q => o.run pins s σ b h ws vs us Q I S r rv (fin_post S q)⟩
end
/-! ### reckoning -/
section
variable {n : Nat}
@[simp] theorem cls_non : Cls n .non ↔ True := ⟨fun _ => trivial, fun _ => .non⟩
@[simp] theorem cls_bl (k : Bool) : Cls n (.bl k) ↔ True := ⟨fun _ => trivial, fun _ => .bl k⟩
@[simp] theorem cls_int (k : Int) : Cls n (.int k) ↔ True := ⟨fun _ => trivial, fun _ => .int k⟩
@[simp] theorem cls_str (k : Str) : Cls n (.str k) ↔ True := ⟨fun _ => trivial, fun _ => .str k⟩
@[simp] theorem cls_ty (k : String) : Cls n (.ty k) ↔ True := ⟨fun _ => trivial, fun _ => .ty k⟩
@[simp] theorem cls_glo (k : Str) : Cls n (.glo k) ↔ True := ⟨fun _ => trivial, fun _ => .glo k⟩
@[simp] theorem cls_ref (k : Nat) : Cls n (.ref k) ↔ k < n := ⟨fun q => by cases q; assumption, fun q => .ref k q⟩
@[simp] theorem cls_tup (xs : List W) : Cls n (.tup xs) ↔ ∀ x ∈ xs, Cls n x := ⟨fun q => by cases q; assumption, fun q => .tup xs q⟩
@[simp] theorem cls_vl (xs : List W) : Cls n (.vl xs) ↔ ∀ x ∈ xs, Cls n x := ⟨fun q => by cases q; assumption, fun q => .vl xs q⟩
@[simp] theorem cls_vd (xs : List (Key × W)) : Cls n (.vd xs) ↔ ∀ x ∈ xs, Cls n x.2 := ⟨fun q => by cases q; assumption, fun q => .vd xs q⟩
@[simp] theorem cls_vi (C : Str) (xs : List (Str × W)) : Cls n (.vi C xs) ↔ ∀ x ∈ xs, Cls n x.2 := ⟨fun q => by cases q; assumption, fun q => .vi C xs q⟩
@[simp] theorem clo_lst (xs : List W) : ClsO n (.lst xs) ↔ ∀ x ∈ xs, Cls n x := Iff.rfl
@[simp] theorem clo_dct (xs : List (Key × W)) : ClsO n (.dct xs) ↔ ∀ x ∈ xs, Cls n x.2 := Iff.rfl
@[simp] theorem clo_ins (C : Str) (xs : List (Str × W)) : ClsO n (.ins C xs) ↔ ∀ x ∈ xs, Cls n x.2 := Iff.rfl
end
section
variable {h g l : MH} {n ex k b i : Nat} {w : W} {xs : List W} {o : Ob}
theorem fzW_cls (hc : Cls n w) : fzW h n ex k w = some w := by
  cases k with
  | zero => unfold fzW; exact if_pos hc
  | succ k => unfold fzW; exact if_pos hc
theorem mapO_self {f : W → Option W} : ∀ {xs : List W}, (∀ x ∈ xs, f x = some x) → mapO f xs = some xs
  | [], _ => rfl
  | x :: xs, q => by unfold mapO; rw [q x (.head _), mapO_self fun y hy => q y (.tail _ hy)]; rfl
theorem mapV_self {κ : Type} {f : W → Option W} : ∀ {xs : List (κ × W)}, (∀ x ∈ xs, f x.2 = some x.2) → mapV f xs = some xs
  | [], _ => rfl
  | x :: xs, q => by
    have := mapV_self (f := f) (xs := xs) fun y hy => q y (.tail _ hy)
    unfold mapV at *
    unfold mapO
    rw [q x (.head _), this]; rfl
theorem fzW_cls_l (hc : ∀ x ∈ xs, Cls n x) : mapO (fzW h n ex k) xs = some xs := mapO_self fun x hx => fzW_cls (hc x hx)
theorem fzW_cls_d {κ : Type} {kvs : List (κ × W)} (hc : ∀ x ∈ kvs, Cls n x.2) : mapV (fzW h n ex k) kvs = some kvs := mapV_self fun x hx => fzW_cls (hc x hx)
/-- g: h, but for closed changes -/
structure Stp (h g : MH) : Prop where
  len : g.length = h.length
  at_ : ∀ i, i < h.length → g[i]? = h[i]? ∨ ∀ o, g[i]? = some o → ClsO h.length o
theorem Stp.refl : Stp h h := ⟨rfl, fun _ _ => .inl rfl⟩
theorem Stp.set (s : Stp h g) (hc : ClsO h.length o) : Stp h (g.set b o) := ⟨by rw [List.length_set, s.len], fun i hi => by
  by_cases e : b = i
  · subst e
    refine .inr fun u eu => ?_
    rw [List.getElem?_set_self (by rw [s.len]; exact hi)] at eu
    cases eu; exact hc
  · rw [List.getElem?_set_ne e]; exact s.at_ i hi⟩
theorem Stp.trans {f : MH} (s : Stp h g) (t : Stp g f) : Stp h f := ⟨t.len.trans s.len, fun i hi => by
  rcases t.at_ i (by rw [s.len]; exact hi) with q | q
  · rw [q]; exact s.at_ i hi
  · exact .inr fun o e => by rw [← s.len]; exact q o e⟩
theorem Stp.old (s : Stp h g) (l : MH) : Old h (g ++ l) := ⟨by rw [List.length_append, s.len]; omega, fun i hi => by
  rw [List.getElem?_append_left (by rw [s.len]; exact hi)]
  exact s.at_ i hi⟩
theorem Stp.take (s : Stp h g) (l : MH) : (g ++ l).take h.length = g := by rw [← s.len]; exact List.take_left
theorem fin_of (s : Stp h g) (l : MH) (w w' : W) (e : fzW (g ++ l) h.length (g ++ l).length 20 w = some w') : fin h (.ok w (g ++ l)) = .ok w' g := by
  unfold fin
  dsimp only
  rw [if_pos (s.old l), e]
  dsimp only
  rw [s.take]
theorem fin_cls (s : Stp h g) (l : MH) (hc : Cls h.length w) : fin h (.ok w (g ++ l)) = .ok w g := fin_of s l w w (fzW_cls hc)
@[simp] theorem fin_self (hc : Cls h.length w) : fin h (.ok w h) = .ok w h := by have := fin_cls (g := h) .refl [] hc; rwa [List.append_nil] at this
@[simp] theorem fin_app (hc : Cls h.length w) : fin h (.ok w (h ++ l)) = .ok w h := fin_cls .refl l hc
@[simp] theorem fin_set (ho : ClsO h.length o) (hc : Cls h.length w) : fin h (.ok w (h.set b o)) = .ok w (h.set b o) := by have := fin_cls (Stp.refl.set (b := b) ho) [] hc; rwa [List.append_nil] at this
@[simp] theorem fin_seta (ho : ClsO h.length o) (hc : Cls h.length w) : fin h (.ok w (h.set b o ++ l)) = .ok w (h.set b o) := fin_cls (Stp.refl.set ho) l hc
theorem fz_top (s : Stp h g) (el : l[k]? = some (.lst xs)) (hc : ∀ x ∈ xs, Cls h.length x) : fzW (g ++ l) h.length (g ++ l).length 20 (.ref (h.length + k)) = some (.vl xs) := by
  unfold fzW
  rw [if_neg (by simp), ]
  dsimp only
  have lt := (List.getElem?_eq_some_iff.mp el).1
  rw [if_neg (by rw [List.length_append, s.len]; omega), List.getElem?_append_right (by rw [s.len]; omega), s.len, Nat.add_sub_cancel_left, el]
  dsimp only
  rw [fzW_cls_l hc]
  rfl
theorem fz_topd {kvs : List (Key × W)} (s : Stp h g) (el : l[k]? = some (.dct kvs)) (hc : ∀ x ∈ kvs, Cls h.length x.2) : fzW (g ++ l) h.length (g ++ l).length 20 (.ref (h.length + k)) = some (.vd kvs) := by
  unfold fzW
  rw [if_neg (by simp), ]
  dsimp only
  have lt := (List.getElem?_eq_some_iff.mp el).1
  rw [if_neg (by rw [List.length_append, s.len]; omega), List.getElem?_append_right (by rw [s.len]; omega), s.len, Nat.add_sub_cancel_left, el]
  dsimp only
  rw [fzW_cls_d hc]
  rfl
theorem fin_l (s : Stp h g) (el : l[k]? = some (.lst xs)) (hc : ∀ x ∈ xs, Cls h.length x) : fin h (.ok (.ref (h.length + k)) (g ++ l)) = .ok (.vl xs) g := fin_of s l _ _ (fz_top s el hc)
theorem fin_d {kvs : List (Key × W)} (s : Stp h g) (el : l[k]? = some (.dct kvs)) (hc : ∀ x ∈ kvs, Cls h.length x.2) : fin h (.ok (.ref (h.length + k)) (g ++ l)) = .ok (.vd kvs) g := fin_of s l _ _ (fz_topd s el hc)
@[simp] theorem fin_l0 (hc : ∀ x ∈ xs, Cls h.length x) : fin h (.ok (.ref h.length) (h ++ .lst xs :: l)) = .ok (.vl xs) h := fin_l (k := 0) .refl rfl hc
@[simp] theorem fin_d0 {kvs : List (Key × W)} (hc : ∀ x ∈ kvs, Cls h.length x.2) : fin h (.ok (.ref h.length) (h ++ .dct kvs :: l)) = .ok (.vd kvs) h := fin_d (k := 0) .refl rfl hc
@[simp] theorem fin_l1 (hc : ∀ x ∈ xs, Cls h.length x) : fin h (.ok (.ref (h.length + 1)) (h ++ o :: .lst xs :: l)) = .ok (.vl xs) h := fin_l (k := 1) .refl rfl hc
@[simp] theorem fin_d1 {kvs : List (Key × W)} (hc : ∀ x ∈ kvs, Cls h.length x.2) : fin h (.ok (.ref (h.length + 1)) (h ++ o :: .dct kvs :: l)) = .ok (.vd kvs) h := fin_d (k := 1) .refl rfl hc
theorem own_l (s : Stp h g) (el : l[k]? = some (.lst xs)) (hc : ∀ x ∈ xs, Cls h.length x) : own h (.ok (.ref (h.length + k)) (g ++ l)) = .ok (.ref h.length) (g ++ [.lst xs]) := by
  unfold own
  dsimp only
  have lt := (List.getElem?_eq_some_iff.mp el).1
  rw [if_pos ⟨s.old l, Nat.le_add_right _ _⟩, List.getElem?_append_right (by rw [s.len]; omega), s.len, Nat.add_sub_cancel_left, el]
  dsimp only
  have e : fzO (g ++ l) h.length (h.length + k) (.lst xs) = some (.lst xs) := by
    show Option.map Ob.lst (mapO _ xs) = _
    rw [fzW_cls_l hc]; rfl
  rw [e]
  dsimp only
  rw [s.take]
theorem own_d {kvs : List (Key × W)} (s : Stp h g) (el : l[k]? = some (.dct kvs)) (hc : ∀ x ∈ kvs, Cls h.length x.2) : own h (.ok (.ref (h.length + k)) (g ++ l)) = .ok (.ref h.length) (g ++ [.dct kvs]) := by
  unfold own
  dsimp only
  have lt := (List.getElem?_eq_some_iff.mp el).1
  rw [if_pos ⟨s.old l, Nat.le_add_right _ _⟩, List.getElem?_append_right (by rw [s.len]; omega), s.len, Nat.add_sub_cancel_left, el]
  dsimp only
  have e : fzO (g ++ l) h.length (h.length + k) (.dct kvs) = some (.dct kvs) := by
    show Option.map Ob.dct (mapV _ kvs) = _
    rw [fzW_cls_d hc]; rfl
  rw [e]
  dsimp only
  rw [s.take]
@[simp] theorem own_l0 (hc : ∀ x ∈ xs, Cls h.length x) : own h (.ok (.ref h.length) (h ++ .lst xs :: l)) = .ok (.ref h.length) (h ++ [.lst xs]) := own_l (k := 0) .refl rfl hc
@[simp] theorem own_d0 {kvs : List (Key × W)} (hc : ∀ x ∈ kvs, Cls h.length x.2) : own h (.ok (.ref h.length) (h ++ .dct kvs :: l)) = .ok (.ref h.length) (h ++ [.dct kvs]) := own_d (k := 0) .refl rfl hc
theorem finX_cls {x : Xn} (s : Stp h g) (l : MH) (hc : ∀ p ∈ x.fs, Cls h.length p.2) : fin h (.exc x (g ++ l)) = .exc x g := by
  unfold fin finX
  dsimp only
  rw [if_pos (s.old l), fzW_cls_d hc]
  dsimp only
  rw [s.take]
@[simp] theorem finX_self {x : Xn} (hc : ∀ p ∈ x.fs, Cls h.length p.2) : fin h (.exc x h) = .exc x h := by have := finX_cls (g := h) .refl [] hc; rwa [List.append_nil] at this
@[simp] theorem finX_app {x : Xn} (hc : ∀ p ∈ x.fs, Cls h.length p.2) : fin h (.exc x (h ++ l)) = .exc x h := finX_cls .refl l hc
/-! ### heaps in their normal form -/
@[simp] theorem get_app_k (h l : MH) (k : Nat) : (h ++ l)[h.length + k]? = l[k]? := by rw [List.getElem?_append_right (Nat.le_add_right _ _), Nat.add_sub_cancel_left]
@[simp] theorem get_app_0 (h l : MH) : (h ++ l)[h.length]? = l[0]? := get_app_k h l 0
@[simp] theorem set_app_k (h l : MH) (k : Nat) (o : Ob) : (h ++ l).set (h.length + k) o = h ++ l.set k o := by rw [List.set_append_right _ _ (Nat.le_add_right _ _), Nat.add_sub_cancel_left]
@[simp] theorem set_app_0 (h l : MH) (o : Ob) : (h ++ l).set h.length o = h ++ l.set 0 o := set_app_k h l 0 o
@[simp] theorem gets_app_k (h l : MH) (b k : Nat) (o : Ob) : (h.set b o ++ l)[h.length + k]? = l[k]? := by have := get_app_k (h.set b o) l k; rwa [List.length_set] at this
@[simp] theorem gets_app_0 (h l : MH) (b : Nat) (o : Ob) : (h.set b o ++ l)[h.length]? = l[0]? := gets_app_k h l b 0 o
@[simp] theorem sets_app_k (h l : MH) (b k : Nat) (o u : Ob) : (h.set b o ++ l).set (h.length + k) u = h.set b o ++ l.set k u := by have := set_app_k (h.set b o) l k u; rwa [List.length_set] at this
@[simp] theorem sets_app_0 (h l : MH) (b : Nat) (o u : Ob) : (h.set b o ++ l).set h.length u = h.set b o ++ l.set 0 u := sets_app_k h l b 0 o u
end
end PM
/-! SmX: exceptions whose maker belongs to a class further up. -/
noncomputable section
namespace PM
open PySem PySem.Spec L2
open PySem.HandSPX
open Builtin Builtin.ObjectAttr
/-- what Python's own part of an exception class must tell: who makes, who sets it up -/
structure XcF (nid iid : String) (bt : List Value) : Prop where
  nw : ∃ (B i2 : String) (b2 : List Value), ExcBaseFacts B nid i2 b2 ∧ bt.contains (.type B) = true
  nA : bt.contains (.type "AttributeError") = false
  nN : bt.contains (.type "NameError") = false
  ini : ∃ B : String, Slot B "__init__" iid ∧ entryFor table iid = some Builtin.«BaseException.__init__» ∧ splitId iid = some (B, "__init__") ∧ builtinKind iid = some .slot ∧
    Manifest.signature? iid = some ⟨.positional, "*", B, .self, [⟨"args", .varPos, false⟩]⟩ ∧ (B != "*") = true ∧ bt.contains (.type B) = true
theorem XcF.of {B nid iid : String} {bt : List Value} (F : ExcBaseFacts B nid iid bt) : XcF nid iid bt :=
  ⟨⟨B, iid, bt, F, F.hasB⟩, F.noAttr, F.noName, B, F.init, F.initEntry, F.initSplit, F.initKind, F.initRow, F.noStar, F.hasB⟩
section
variable {prog : Program} {w : World} {A : Around} {E : Value → Shared → Prop} {R : Result → Shared → Prop} {h : Heap} {g : Array GenState} {d : Drawn} {t : Nat} {os : OsState}
variable {nm q : Str} {C N : Addr} {bs bm bmB : List Value} {hdct : Bool} {sn : List Str} {sub : List Value} {ab : Bool} {col : Option Bool} {dd : Option Addr} {k0 k1 k2 k3 k5 : Option Value} {B nid iid : String}
theorem x_check {M : Model} (F : ExcBaseFacts B nid iid bmB) (cB : bm.contains (.type B) = true) {rest : List Value} {Q : Unit → Shared → Prop} (hC : h.get? C = some (excClassObj nm q C N bs bm hdct sn sub ab col dd k0 k1 k2 k3 k5 nid)) (hq : Q () ⟨h, g, d, t, os⟩) :
    wpAny M A (checkBuiltinCall nid ⟨.ref C :: rest, []⟩) Q E ⟨h, g, d, t, os⟩ := by
  have c1 : (Value.ref C :: bm).contains (.type B) = true := by rw [List.contains_cons, cB, Bool.or_true]
  have c2 := F.noStar
  simp only [checkBuiltinCall, F.newKind, F.newSplit, F.newRow]
  repeat (first | refine wpAny_loadPart_at hC ?_ | (refine wpAny_isSubtype_exc hC ?_; (rw [c1])) | refine wpAny_staticBase_exc hC ?_ | refine wpAny_madeBy_exc hC ?_ | (simp only [bne_self_eq_false, Bool.false_eq_true, if_false]) | wp_step)
  exact hq
theorem x_new (F : ExcBaseFacts B nid iid bmB) (cB : bm.contains (.type B) = true) (cA : bm.contains (.type "AttributeError") = false) (cN : bm.contains (.type "NameError") = false) {rest : List Value} (hC : h.get? C = some (excClassObj nm q C N bs bm hdct sn sub ab col dd k0 k1 k2 k3 k5 nid))
    (hq : R (.ok (.ret (.ref (h.objs.size + 1)))) ⟨(h.push { cls := .type "tuple", data := .seq rest.toArray }).push { cls := .ref C, data := .fields #[.ref h.objs.size, .none, .none, .none, .bool false, .none] }, g, d, t, os⟩) (hr : rest.length ≤ sizeLine) :
    codeAny (model prog w) A (.builtin nid ⟨.ref C :: rest, []⟩) R ⟨h, g, d, t, os⟩ := by
  have c0 := F.ends
  have c1 : (Value.ref C :: bm).contains (.type B) = true := by rw [List.contains_cons, cB, Bool.or_true]
  have c2 : (Value.ref C :: bm).contains (.type "AttributeError") = false := by (rw [List.contains_cons, cA]); rfl
  have c3 : (Value.ref C :: bm).contains (.type "NameError") = false := by (rw [List.contains_cons, cN]); rfl
  refine codeAny_builtinAt F.entry ?_
  unfold Builtin.«BaseException.__new__»
  refine wpAt_bind ?_
  show wpAt _ _ _ (stack >>= _) _ _ _
  refine wpAt_bind (wpAt_stack fun p below => wpAt_of_wpAny ?_)
  wp_walk
  refine wpAt_of_wpAny ?_
  rw [F.owner]
  repeat (first | (with_reducible refine wpAny_madeHere_exc F.canon hC ?_) | (with_reducible refine wpAny_loadPart_at hC ?_) | (with_reducible refine wpAny_isSubtype_exc hC ?_; first | rw [c1] | rw [c2] | rw [c3]) | wp_step)
  show R _ _
  (rw [Heap.size_push]); exact hq
theorem x_type (F : ExcBaseFacts B nid iid bmB) (cB : bm.contains (.type B) = true) (cA : bm.contains (.type "AttributeError") = false) (cN : bm.contains (.type "NameError") = false) {rest : List Value} {fI : Addr} {Q : Fin → Shared → Prop} (hC : h.get? C = some (excClassObj nm q C N bs bm hdct sn sub ab col dd k0 k1 k2 k3 k5 nid))
    (hi : W.Looks (model prog w) h (typeLookup (.ref C) "__init__") (some (.ref fI))) (hb : ∀ self, W.Looks (model prog w) h (bindSpecial (.ref fI) self) (.ref fI, [self])) (hr : rest.length ≤ sizeLine)
    (hq : codeAny (model prog w) A (.call (.ref fI) ⟨.ref (h.objs.size + 1) :: rest, []⟩) (fun r s' => match r with | .ok (.ret v) => v = .none ∧ Q (.done (.ret (.ref (h.objs.size + 1)))) s' | .ok _ => False | .error e => E e s') ⟨(h.push (W.kdv_tup rest)).push (excO C h.objs.size), g, d, t, os⟩) :
    wpAny (model prog w) A (Builtin.«type.__call__» ⟨.ref C :: rest, []⟩) Q E ⟨h, g, d, t, os⟩ := by
  repeat (first | (with_reducible refine wpAny_loadPart_at hC ?_) | (with_reducible refine wpAny_madeBy_exc hC ?_) | wp_step)
  refine codeAny_call_builtin_code (Code.quiet_builtin _ F.quiet) (x_check F cB hC (x_new F cB cA cN hC ?_ hr))
  show wpAny _ _ _ _ _ _
  have k : ∀ b o, h.get? b = some o → ((h.push (W.kdv_tup rest)).push (excO C h.objs.size)).get? b = some o := fun b o e => Heap.get?_push_of_some _ (Heap.get?_push_of_some _ e)
  have h1 := k _ _ hC
  have h2 : ((h.push (W.kdv_tup rest)).push (excO C h.objs.size)).get? (h.objs.size + 1) = some (excO C h.objs.size) := by heap_get
  have h3 : (Value.ref C :: bm).contains (.ref C) = true := by simp
  have i1 := hi.keeps k
  have b1 := (hb (.ref (h.objs.size + 1))).keeps k
  unfold isInstance
  repeat (first | (with_reducible refine wpAny_loadPart_at h2 ?_) | (with_reducible refine wpAny_isSubtype_exc h1 ?_; (rw [h3])) | wp_step)
  show wpAny _ _ (typeLookup (.ref C) _) _ _ _
  refine i1.at ?_
  refine wpAny_holding (wpAny_bind (b1.at ?_))
  refine wpAny_bind (wpAny_call (codeAny_mono hq fun r s' z => ?_))
  rcases r with e | (v | _ | _ | _) <;> first | exact z | exact z.elim | skip
  obtain ⟨rfl, z⟩ := z
  first | exact wpAny_pure (wpAny_pure z) | (wp_walk; exact z)
theorem x_call (F : ExcBaseFacts B nid iid bmB) (cB : bm.contains (.type B) = true) (cA : bm.contains (.type "AttributeError") = false) (cN : bm.contains (.type "NameError") = false) {rest : List Value} {fI : Addr} (hC : h.get? C = some (excClassObj nm q C N bs bm hdct sn sub ab col dd k0 k1 k2 k3 k5 nid))
    (hi : W.Looks (model prog w) h (typeLookup (.ref C) "__init__") (some (.ref fI))) (hb : ∀ self, W.Looks (model prog w) h (bindSpecial (.ref fI) self) (.ref fI, [self])) (hr : rest.length ≤ sizeLine)
    (hq : codeAny (model prog w) (A.under (.builtin "type.__call__" ⟨.ref C :: rest, []⟩)) (.call (.ref fI) ⟨.ref (h.objs.size + 1) :: rest, []⟩) (W.InitBack (h.objs.size + 1) R) ⟨(h.push (W.kdv_tup rest)).push (excO C h.objs.size), g, d, t, os⟩) :
    codeAny (model prog w) A (.call (.ref C) ⟨rest, []⟩) R ⟨h, g, d, t, os⟩ := by
  have f1 := tc_lookup
  have f2 := tc_bind (.ref C)
  have f3 : (⟨h, g, d, t, os⟩ : Shared).TypeIs (.ref C) "type" := ⟨_, hC, rfl⟩
  refine codeAny_of_tree ?_
  show wpAny _ _ (callAny (.ref C) _) _ _ _
  repeat (any_goals (first | assumption | (with_reducible refine wpAny_loadPart_at hC ?_) | wp_step))
  refine ⟨rfl, codeAny_call_builtin_at (Code.quiet_builtin _ (by decide +kernel)) entry_typeCall (wpAny_check_type_call_sub hC (x_type F cB cA cN hC hi hb hr (codeAny_mono hq fun r s' z => ?_)))⟩
  rcases r with e | (v | _ | _ | _) <;> exact z
/-- Base.__init__(e, ..) -/
theorem x_init {bt : List Value} (F : XcF nid iid bt) (hT : ∀ X : String, bm.contains (.type X) = bt.contains (.type X)) {e t0 : Addr} {rest : List Value} (hC : h.get? C = some (excClassObj nm q C N bs bm hdct sn sub ab col dd k0 k1 k2 k3 k5 nid)) (he : h.get? e = some (excO C t0)) (hr : rest.length ≤ sizeLine)
    (hq : ∀ h' t1, (∀ b o, b ≠ e → h.get? b = some o → h'.get? b = some o) → h'.get? e = some (excO C t1) → R (.ok (.ret .none)) ⟨h', g, d, t, os⟩) : codeAny (model prog w) A (.call (.builtin iid) ⟨.ref e :: rest, []⟩) R ⟨h, g, d, t, os⟩ := by
  obtain ⟨B, s1, s2, s3, s4, s5, s6, s7⟩ := F.ini
  have c1 : (Value.ref C :: bm).contains (.type B) = true := by rw [List.contains_cons, hT, s7, Bool.or_true]
  refine codeAny_call_builtin s1.plain s2 ?_
  simp only [checkBuiltinCall, s4, s3, s5]
  repeat (first | (with_reducible refine wpAny_loadPart_at he ?_) | (with_reducible refine wpAny_loadPart_at hC ?_) | (with_reducible refine wpAny_isSubtype_exc hC ?_; (rw [c1])) | wp_step)
  refine wpAny_onRaise ?_
  rw [show ∀ (a b : String) (n : Nat), Bind.check ⟨.positional, "*", B, .self, [⟨"args", .varPos, false⟩]⟩ a b n (List.map (fun x => x.fst) ({ pos := Value.ref e :: rest } : Args).kw) = pure () from fun a b n => check_star_args _ _ _ _ _ _]
  refine wpAny_pure ?_
  wp_walk
  refine hq _ h.objs.size (fun b o hb ho => ?_) ?_
  · (rw [Heap.get?_update_other _ _ (Ne.symm hb)]); exact Heap.get?_push_of_some _ ho
  · (rw [Heap.get?_update_self _ (Heap.get?_push_of_some _ he) rfl]); rfl
end
end PM
/-! Sm38: own exceptions under any class of Python: made, their field stored. -/
noncomputable section
namespace PM
open PySem PySem.Spec L2
open PyProof.Rows hiding St
open Builtin Builtin.ObjectAttr
/-- what the text says of an own exception class -/
structure OxB (K : PySem.W.Frag) (C : Addr) (nid : String) (bt : List Value) : Prop where
  ini : PySem.W.excInitIn K C bt nid = true
  ov : PySem.W.excOver K C bt = true
  hd : PySem.W.hasDictIn K C = true
  sa : PySem.W.findIn K (.ref C) "__setattr__" = some (some (.builtin "object.__setattr__"))
  xc : PySem.W.subIn K (.ref C) (.type "BaseException") = some true
  ty : PySem.W.typeIn K (.ref C) = some (.type "type")
  kp : PySem.W.keepIn K (.ref C) = true
abbrev exR (C t : Addr) (d : Option Addr) : Obj := { cls := .ref C, dict := d, data := .fields #[.ref t, .none, .none, .none, .bool false, .none] }
section
variable {prog : Program} {w : World} {A : Around} {R : Result → Shared → Prop} {hp : Heap} {g : Array GenState} {d : Drawn} {t : Nat} {os : OsState}
/-- the first field of an exception: its dict is laid -/
theorem ox_first {K : PySem.W.Frag} {C x t1 : Addr} {nid B : String} {bt : List Value} {f : Str} {tk : Tok} {v : Value} (T : OxB K C nid bt) (SF : StoreFacts B bt "object.__setattr__" "object") (X : K.In hp) (hx : hp.get? x = some (exR C t1 none)) (hf : PySem.W.takerIn K C f = some none)
    (go : ∀ h2 tk2 dx, (∀ b o, b ≠ x → hp.get? b = some o → h2.get? b = some o) → hp.objs.size ≤ dx → dx ≠ x → h2.get? x = some (exR C t1 (some dx)) → h2.Ns1 dx (fun y => if y = f then some v else none) → R (.ok (.ret .none)) ⟨h2, g, d, tk2, os⟩) :
    codeAny (model prog w) A (.call (.builtin "object.__setattr__") ⟨[.ref x, .str f tk, v], []⟩) R ⟨hp, g, d, t, os⟩ := by
  obtain ⟨cd, hc, hh⟩ := PySem.W.any_some T.hd
  have xs : x ≠ hp.objs.size := Nat.ne_of_lt (Heap.lt_size hx)
  refine PySem.W.osa_openX (s := ⟨hp, g, d, t, os⟩) SF X (od := none) (I := ⟨hx, rfl, rfl, trivial⟩) T.ov hf fun b => ?_
  have lc : PySem.W.Looks (model prog w) hp (classData C) cd := PySem.W.looks_clsIn X hc
  obtain ⟨nm, bs, mro, ns, qn, hd, sn, sb, ab, col, del⟩ := cd
  have hh : hd = true := hh
  subst hh
  show wpAny _ _ (storeInOwnDict (.ref x) (.ref C) (.str f tk) f v b) _ _ _
  unfold storeInOwnDict ownDictForStores
  repeat (first | with_reducible refine PySem.HandSPX.store_in_new ?_ ?_ | with_reducible refine wpAny_loadPart_at hx ?_ | with_reducible refine lc.at ?_ | wp_step)
  · exact ⟨_, #[], _, (Heap.get?_update_ne _ _ _ _ xs.symm).trans (Heap.get?_push_at rfl rfl), rfl, fun e he => (by simp at he), fun _ => rfl⟩
  · intro h2 tk2 hn sb2
    have e1 : (hp.push { cls := .type "dict", data := .dict #[] }).get? x = some (exR C t1 none) := Heap.get?_push_of_some _ hx
    refine go h2 tk2 hp.objs.size (fun b o nb eb => ?_) (Nat.le_refl _) xs.symm ?_ hn
    · have lb : b ≠ hp.objs.size := Nat.ne_of_lt (Heap.lt_size eb)
      exact (sb2.2 b lb).trans ((Heap.get?_update_ne _ _ _ _ nb).trans (Heap.get?_push_of_some _ eb))
    · exact (sb2.2 x xs).trans (Heap.get?_update_self _ e1 rfl)
end
section
variable {X : Cx} {pins : List (Addr × Obj)} {σ : L2.St} {H : Hp} {s : Shared} {a C dx : Addr} {f : Str} {y : V} {u : Value} {A : Around} {nid B iid : String} {bt : List Value}
/-- an exception gets its dict -/
theorem inv_dicted {h2 : Heap} {t2 : Nat} {mA : Str → Option Value} {t1 : Addr} (I : Inv X pins σ H s) (e : H a = some (exo a C none)) (k : ∀ b o, b ≠ a → s.heap.get? b = some o → h2.get? b = some o) (dn : s.heap.objs.size ≤ dx) (ne : dx ≠ a)
    (hx : h2.get? a = some (exR C t1 (some dx))) (hn : h2.Ns1 dx mA) (ry : ∀ g, RelO ([(f, y)].lookup g) (mA g)) : Inv X pins σ (upd (upd H dx (exd dx [(f, y)])) a (exo a C (some dx))) { s with heap := h2, toks := t2 } := by
  have fr : H dx = none := I.hok.fresh dn
  have old : ∀ {b : Addr} {o : Obj}, s.heap.get? b = some o → b ≠ dx := fun {b o} q z => by
    have lt := Heap.lt_size q
    rw [z] at lt
    exact absurd lt (Nat.not_lt.mpr dn)
  have nota : ∀ {b : Addr}, H b = none → b ≠ a := fun {b} q z => by
    rw [z, e] at q; cases q
  have same : ∀ {b : Addr} {o : HO}, H b = some o → o ≠ exo a C none → upd (upd H dx (exd dx [(f, y)])) a (exo a C (some dx)) b = some o := fun {b o} q d => by
    have n1 : b ≠ a := fun z => by
      rw [z, e] at q
      exact d (Option.some.inj q).symm
    rw [upd_ne n1, upd_ne (ne_of_none q fr)]
    exact q
  have U : Un X.fs [] H (upd (upd H dx (exd dx [(f, y)])) a (exo a C (some dx))) s.heap h2 := by
    constructor
    · exact fun b o q n _ _ => k b o (nota n) q
    · exact fun b o q n _ _ => ⟨o.slots, k b o (nota n) q⟩
    · intro b o q n _
      rw [upd_ne (nota n), upd_ne (old q)]
      exact n
    · intro b o q _
      by_cases z : b = a
      · subst z; exact ⟨_, hx⟩
      · exact ⟨o, k b o z q⟩
    · exact fun b xs q => same q fun z => exo_tup z.symm
    · exact fun b o v q => same q fun z => exo_frz z.symm
    · exact fun b ps q => ⟨#[], by rw [same q fun z => exo_tbl z.symm]; simp⟩
  refine I.un (t' := t2) U fun b o q => ?_
  by_cases z1 : b = a
  · subst z1
    rw [upd_same] at q
    cases q; exact exo_ok hx
  rw [upd_ne z1] at q
  by_cases z2 : b = dx
  · subst z2
    rw [upd_same] at q
    cases q; exact exd_ok hn ry
  rw [upd_ne z2] at q
  refine (I.hok b o q).stay (fun c v hc y => ?_) (fun c hc => same hc fun z => exo_own z.symm) fun c xs hc => same hc fun z => exo_tup z.symm
  refine k c v ?_ y
  rcases hc with hc | hc
  · rw [hc]; exact z1
  · exact at_ne e hc exo_own
/-- self.f = y on an exception that is being made -/
theorem ox_put {Q : Unit → Shared → Prop} {E : Value → Shared → Prop} (T : OxB X.K C nid bt) (SF : StoreFacts B bt "object.__setattr__" "object") (I : Inv X pins σ H s) (e : H a = some (exo a C none)) (hf : PySem.W.takerIn X.K C f = some none) (ry : RelV y u)
    (go : ∀ dx s', H dx = none → dx ≠ a → Inv X pins σ (upd (upd H dx (exd dx [(f, y)])) a (exo a C (some dx))) s' → Q () s') : wpAny (model X.prog X.w) A (setAttr (.ref a) f u) Q E s := by
  obtain ⟨t1, ho⟩ := exo_at I.hok e
  obtain ⟨hp, g, d, t, os⟩ := s
  refine PySem.W.set_plain I.kIn (ox := exR C t1 none) (od := none) ⟨ho, rfl, rfl, trivial⟩ T.sa ?_
  refine ox_first T SF I.kIn ho hf fun h2 tk2 dx k dn ne hx hn => ?_
  refine go dx _ (I.hok.fresh dn) ne (inv_dicted (t2 := tk2) I e k dn ne hx hn fun g => ?_)
  have := relO_put (f := f) (fs := []) (mA := fun _ => none) ry (fun _ => True.intro) g
  exact this
/-- the base's __init__ on it -/
theorem ox_base {us : List Value} {Q : Value → Shared → Prop} {E : Value → Shared → Prop} (T : OxB X.K C nid bt) (FB : XcF nid iid bt) (I : Inv X pins σ H s) (e : H a = some (exo a C none)) (hl : us.length ≤ sizeLine) (go : ∀ s', Inv X pins σ H s' → Q .none s') :
    wpAny (model X.prog X.w) A (call (.builtin iid) (.ref a :: us)) Q E s := by
  obtain ⟨nm, N, qn, bs, bm, hdct, sn, sub, ab, col, dd, k0, k1, k2, k3, k5, hC, hT⟩ := PySem.W.excInit_of I.kIn T.ini
  obtain ⟨t1, ho⟩ := exo_at I.hok e
  obtain ⟨hp, g, d, t, os⟩ := s
  refine wpAny_call (x_init FB hT hC ho hl fun h2 t2 k hx => ?_)
  have stay : upd H a (exo a C none) = H := by
    funext b
    by_cases z : b = a
    · subst z; rw [upd_same, e]
    · exact upd_ne z
  have J := I.write (t' := t) (x := a) (e := a) (o := exo a C none) (by rw [e]; trivial) (.inl rfl) k ⟨_, hx⟩ (exo_ok hx)
  rw [stay] at J
  exact go _ J
end
end PM
/-! Sm39: own exceptions, raised. -/
noncomputable section
namespace PM
open PySem PySem.Spec L2
open PyProof.Rows hiding St
/-- Base.__init__(self, ..), Base a class of the text -/
def tOxI (C : Addr) (ta : TA) : TE := fun σ H Q => ta σ H fun vs H1 => ∃ (a : Addr) (ws : List V), vs = .ref a :: ws ∧ ws.length ≤ 1000 ∧ H1 a = some (exo a C none) ∧ Q .non H1
/-- self.f = e -/
def tOxP (C : Addr) (f : Str) (to te : TE) : TS := fun D σ H => te σ H fun y H1 => to σ H1 fun x H2 => ∃ a : Addr, x = .ref a ∧ H2 a = some (exo a C none) ∧ ∀ dx, H2 dx = none → dx ≠ a → D.nx σ (upd (upd H2 dx (exd dx [(f, y)])) a (exo a C (some dx)))
/-- what the base must tell -/
structure OxP (K : PySem.W.Frag) (P0 : Addr) (iid : String) : Prop where
  rd : PySem.W.readsIn K P0 (.type "type") = true
  fc : PySem.W.findCls K (.ref P0) (.type "type") "__init__" = some (.val (.builtin iid))
  ga : PySem.W.specialIn K (.ref P0) "__getattribute__" = some (some (.builtin "type.__getattribute__"))
  hi : PySem.W.handedIn (.builtin iid) = true
section
variable {X : Cx} {o e : Expr} {es : List Expr} {to te : TE} {ta : TA} {f x : Str} {p p' p1 p2 pos : Pos} {C P0 : Addr} {nid B iid : String} {bt : List Value}
theorem pe_oxinit {pl : Sem Bool} (T : OxB X.K C nid bt) (FB : XcF nid iid bt) (Pf : OxP X.K P0 iid) (hg : Gl X x) (hm : X.mg x = some (.ref P0)) (ha : PA X (e :: es) ta) (hdb : (x == ("__debug__" : Str)) = false := by decide)
    (hc : eval (.Call (.Attribute (.Name x p1) "__init__" p2) (e :: es) [] pos) X.env = (do let ov ← eval (.Name x p1) X.env; standAt p2.atName; let (f, first) ← holding [ov] (getMethod ov "__init__" pl); callWith pos f first (backTo pos (starEach (e :: es) X.env)) (backToKw pos (keywordEach [] X.env))) := by rfl)
    (he : starEach (e :: es) X.env = (false, eval e X.env) :: starEach es X.env := by rfl) (hpl : (backTo pos (starEach es X.env)).any (·.1) = false := by rfl) :
    PE X (.Call (.Attribute (.Name x p1) "__init__" p2) (e :: es) [] pos) (tOxI C ta) := ⟨fun pins s σ H Q I q => by
  refine PySem.W.methodCall_KW (ld_glob I hg hm ?_ hdb) hc
  refine PySem.W.method_cls I.kIn Pf.ga (PySem.W.cls_value I.kIn Pf.rd Pf.fc Pf.hi ?_)
  show wpAny _ _ (callWith pos (Value.builtin iid) [] (backTo pos (starEach (e :: es) X.env)) []) _ _ _
  refine PyProof.Rows.callWith_method1 (thn (ha.run pos pins _ σ H _ (I.tok _) q) fun us s1 ⟨vs, H1, I1, r1, a, ws, ev, hl, ea, q1⟩ => ?_) he hpl
  subst ev
  cases r1 with
  | @cons _ u0 _ ur ra rr =>
    cases (show u0 = Value.ref a from ra)
    have len : ur.length ≤ sizeLine := by
      have := Paired.length rr
      rw [sizeLine_eq]; omega
    exact ox_base T FB I1 ea len fun s2 J => ⟨.non, H1, J, rfl, q1⟩⟩
theorem ps_oxput (T : OxB X.K C nid bt) (SF : StoreFacts B bt "object.__setattr__" "object") (hf : PySem.W.takerIn X.K C f = some none) (ho : PE X o to) (he : PE X e te) (hs : swapsWith e (some (.Attribute o f p')) pos.line X.env = pure false := by rfl) :
    PS X (.Assign [.Attribute o f p'] e pos) (tOxP C f to te) := ⟨fun pins s σ H D I q => by
  refine plainObj_wpAny_Assign_Attribute (thn (he.run pins s σ H _ I q) fun v s1 ⟨y, H1, I1, r1, q1⟩ => thn (ho.run pins s1 σ H1 _ I1 q1) fun u s2 ⟨z, H2, I2, r2, a, ez, ea, q2⟩ => ?_) hs
  subst ez
  cases (show u = Value.ref a from r2)
  exact ox_put T SF I2 ea hf r1 fun dx s3 n ne J => ⟨σ, _, J, q2 dx n ne⟩⟩
/-- what an __init__ that stores its argument as the field f does -/
def spX (C : Addr) (f : Str) : Sp := fun vs H Q _ => ∃ (a : Addr) (y : V), vs = [.ref a, y] ∧ H a = some (exo a C none) ∧ ∀ dx, H dx = none → dx ≠ a → Q .non (upd (upd H dx (exd dx [(f, y)])) a (exo a C (some dx)))
/-- C(e): the exception, its own dict at d -/
def tOxM (C : Addr) (f : Str) (ta : TA) : L2.St → Hp → XK → Prop := fun σ H Q => ta σ H fun vs H1 => ∃ y, vs = [y] ∧ ∀ d, H1 d = none → Q (.ref C) (some d) (upd H1 d (.xd [(f, y)]))
theorem pmk_ox {k : Nat} {fI : Addr} {fd : FuncData} {ps : List Str} (T : OxB X.K C nid bt) (FB : XcF nid iid bt) (iC : PySem.W.findIn X.K (.ref C) "__init__" = some (some (.ref fI))) (tI : PySem.W.typeIn X.K (.ref fI) = some (.type "function"))
    (F : FnOk X.prog X.w X.K X.mg X.base (L2.CX X.prog X.w) k fI fd ps (spX C f)) (hr : Room (k + 1) X.A) (hb : Binds X.K fd ps []) (hx : Passes (L2.CX X.prog X.w) X (fun _ _ _ => False)) (hg : Gl X x) (hm : X.mg x = some (.ref C)) (ha : PA X [e] ta) (hdb : (x == ("__debug__" : Str)) = false := by decide)
    (he : starEach [e] X.env = (false, eval e X.env) :: starEach [] X.env := by rfl) (hpl : (backTo pos (starEach [] X.env)).any (·.1) = false := by rfl) : PMk X (.Call (.Name x p) [e] [] pos) (tOxM C f ta) := by
  intro pins s σ H Q I q
  obtain ⟨nm, N, qn, bs, bm, hdct, sn, sub, ab, col, dd, k0, k1, k2, k3, k5, hC, hT⟩ := PySem.W.excInit_of I.kIn T.ini
  refine wpAny_Call_Name_kw (ld_glob I hg hm ?_ hdb)
  refine PySem.W.callWith_K (h₀ := X.base) I.ok.mod.kin T.kp (thn (ha.run pos pins s σ H _ I q) fun us s1 ⟨vs, H1, I1, r1, y, ev, q1⟩ => ⟨I1.kIn, ?_⟩) he hpl
  subst ev
  obtain ⟨uy, rfl, ry⟩ := vals1 r1
  show wpAny _ _ (call (.ref C) [uy]) _ _ _
  obtain ⟨nm, N, qn, bs, bm, hdct, sn, sub, ab, col, dd, k0, k1, k2, k3, k5, hC, hT⟩ := PySem.W.excInit_of I1.kIn T.ini
  obtain ⟨hp, g, dr, tk, os⟩ := s1
  generalize ea : hp.objs.size + 1 = a
  have big : hp.objs.size ≤ a := by omega
  have fresh : H1 a = none := I1.hok.fresh big
  generalize eh : (hp.push (PySem.W.kdv_tup [uy])).push (PySem.HandSPX.excO C hp.objs.size) = h2
  have old : ∀ b o, hp.get? b = some o → h2.get? b = some o := fun b o z => by
    rw [← eh]; exact Heap.get?_push_of_some _ (Heap.get?_push_of_some _ z)
  have new : h2.get? a = some (PySem.HandSPX.excO C hp.objs.size) := by
    rw [← eh, ← ea]; heap_get
  have I2 : Inv X pins σ (upd H1 a (exo a C none)) ⟨h2, g, dr, tk, os⟩ := I1.laid (t' := tk) old big (exo_ok new)
  have rv : Vals [V.ref a, y] [Value.ref a, uy] := .cons rfl (.cons ry .nil)
  have sp : spX C f [V.ref a, y] (upd H1 a (exo a C none)) (fun v H2 => v = .non ∧ ∃ (d : Addr) (fs : List (Str × V)), H2 a = some (exo a C (some d)) ∧ H2 d = some (exd d fs) ∧ H1 d = none ∧ Q (.ref C) (some d) (upd (del H2 a) d (.xd fs))) (fun _ _ _ => False) := by
    refine ⟨a, y, rfl, upd_same, fun dx n ne => ⟨rfl, dx, [(f, y)], upd_same, ?_, ?_, ?_⟩⟩
    · rw [upd_ne ne]; exact upd_same
    · rwa [upd_ne ne] at n
    · have n1 : H1 dx = none := by rwa [upd_ne ne] at n
      have eq : upd (del (upd (upd (upd H1 a (exo a C none)) dx (exd dx [(f, y)])) a (exo a C (some dx))) a) dx (.xd [(f, y)]) = upd H1 dx (.xd [(f, y)]) := by
        funext b
        by_cases z1 : b = dx
        · subst z1; rw [upd_same, upd_same]
        · rw [upd_ne z1, upd_ne z1]
          by_cases z2 : b = a
          · subst z2; rw [del_same, fresh]
          · rw [del_ne z2, upd_ne z2, upd_ne z1, upd_ne z2]
      rw [eq]
      exact q1 dx n1
  have hl : ([Value.ref a] ++ [uy]).length = ps.length := by
    have := F.len _ _ _ _ sp
    simpa using this
  obtain ⟨B2, i2, b2, F2, c2⟩ := FB.nw
  refine wpAny_call (x_call F2 (by rw [hT, c2]) (by rw [hT, FB.nA]) (by rw [hT, FB.nN]) hC (PySem.W.looks_findIn I1.kIn iC) (fun self => PySem.W.bind_fn I1.kIn self tI) (by rw [sizeLine_eq]; simp) ?_)
  rw [ea, eh]
  have to := hb ⟨h2, g, dr, tk, os⟩ [.ref a, uy] I2.kIn (by simpa using hl)
  refine codeAny_mono (F.run _ X.stack _ _ ⟨[.ref a, uy], []⟩ [.ref a, uy] _ _ (fun _ _ _ => False) (hr.make C [uy] []) (I2.env0.make C [uy] []) (by simpa using to) rv sp) fun r s2 z => ?_
  cases r with
  | error er => exact hx pins σ _ _ er s2 I2 z
  | ok fl =>
    cases fl with
    | ret u =>
      obtain ⟨v, H2, os2, bare2, un2, hok2, r2, ev, d, fs, e1, e2, e3, q2⟩ := z
      subst ev
      obtain ⟨h3, g3, d3, t3, os3⟩ := s2
      exact ⟨r2, mk_end (raises_own T.xc T.ty) I1 big old un2 hok2 os2 bare2 e1 e2 e3 q2⟩
    | next => exact z.elim
    | brk => exact z.elim
    | cont => exact z.elim
end
end PM
/-! Sm40: try with any number of clauses, each with a name or without. -/
noncomputable section
namespace PM
open PySem PySem.Spec L2
open PyProof.Rows hiding St
/-- a clause: its class, its name's slot, its suite's reading; none: it and those behind it are never asked -/
abbrev ClM := Option (Value × Option Nat × (Addr → Value → Option Addr → TS))
def endIo (io : Option Nat) (D : Ends) : Ends := match io with
  | none => D
  | some i => ⟨fun σ H => D.nx (σ.set i none) H, D.rt, fun σ H => D.bk (σ.set i none) H, fun σ H => D.ct (σ.set i none) H⟩
def setIo (io : Option Nat) (σ : L2.St) (v : V) : L2.St := match io with
  | none => σ
  | some i => σ.set i (some v)
def wCl (K : PySem.W.Frag) (Wo : WX) (D : Ends) : List ClM → WX
  | [] => Wo
  | none :: _ => fun _ _ _ _ => False
  | some (c, io, ts) :: r => fun cls d σ H => ∃ k, PySem.W.exmOne K cls c = some k ∧ (k = true → ∀ a, H a = none → ts a cls d (endIo io D) (setIo io σ (.ref a)) H) ∧ (k = false → wCl K Wo D r cls d σ H)
inductive ClOk (X : Cx) : List ExceptHandler → List ClM → Prop
  | nil : ClOk X [] []
  | never {hs : List ExceptHandler} : ClOk X hs [none]
  | one {x : Str} {c : Value} {io : Option Nat} {nm : Option Str} {ts : Addr → Value → Option Addr → TS} {b0 : Stmt} {su : List Stmt} {p1 p2 : Pos} {hs : List ExceptHandler} {l : List ClM} (hc : Names X x c)
      (hn : match io, nm with
        | none, none => True
        | some i, some n => X.N[i]? = some n ∧ X.env.kindOf n = some .local
        | _, _ => False)
      (hsu : ∀ (a : Addr) (oe : Obj) (cls : Value) (d : Option Addr) (pn : List (Addr × Obj)), Zc cls d oe → (∃ vs, oe.data = .fields vs) → PSs (X.suite a ((a, oe) :: pn)) (b0 :: su) (ts a cls d)) (r : ClOk X hs l) :
      ClOk X (.ExceptHandler (some (.Name x p1)) nm (b0 :: su) p2 :: hs) (some (c, io, ts) :: l)
section
variable {X : Cx} {pins : List (Addr × Obj)} {σ : L2.St} {H : Hp} {a : Addr} {B : Heap} {sI s : Shared} {cls : Value} {d : Option Addr} {Wo : WX} {D : Ends}
/-- an exception that is being looked at by this frame's clauses -/
structure Caught (X : Cx) (pins : List (Addr × Obj)) (σ : L2.St) (H : Hp) (a : Addr) (B : Heap) (sI s : Shared) (cls : Value) (d : Option Addr) : Prop where
  J : Inv X pins σ H sI
  nb : ∀ b o, sI.heap.get? b = some o → b ∉ frs X.stack → B.get? b = some o
  up : sI.heap.UpToSlots s.heap
  fl : HandSPX.FlyingZ B (X.env :: X.outer) a (Zc cls d) s.heap
  os : s.os = sI.os
  ag : AllBare s.gens
  na : H a = none
theorem Caught.inv (T : Caught X pins σ H a B sI s cls d) : Inv X pins σ H s := by
  have := T.J.landed (s' := s) T.nb T.fl.1 T.up T.os T.ag
  exact this
theorem Caught.off (T : Caught X pins σ H a B sI s cls d) (hf : X.env.frame = some X.env.locals) : a ≠ X.env.locals ∧ a ∉ X.fs := by
  obtain ⟨oe, vs, he, hz, hd⟩ := T.fl.there
  have no : a ∉ frs (X.env :: X.outer) := fun m => by
    obtain ⟨_, o, eo, nf⟩ := T.fl.2.2.1.mem m
    rw [he] at eo; cases eo
    exact nf _ hd
  refine ⟨fun z => no (List.mem_filterMap.mpr ⟨X.env, .head _, by rw [hf, z]⟩), fun m => ?_⟩
  obtain ⟨q, hq, eq⟩ := List.mem_filterMap.mp m
  exact no (List.mem_filterMap.mpr ⟨q, .tail _ hq, eq⟩)
/-- no clause takes it -/
theorem Caught.on (T : Caught X pins σ H a B sI s cls d) (hs : X.stack = X.env :: X.outer) (hf : X.env.frame = some X.env.locals) (tk : Takes X Wo) (w : Wo cls d σ H) :
    wpAny (model X.prog X.w) X.A (handleBy (.ref a) X.env []) (SP X pins D) X.xe s := by
  refine wpAny_handleBy_nil ?_
  have go : wpAny (model X.prog X.w) X.A (setFlight (.ref a) X.env.frame) (fun _ s4 => wpAny (model X.prog X.w) X.A (throw (.ref a) : Sem Flow) (SP X pins D) X.xe s4) X.xe s := by
    rw [hf]
    refine HandSPX.setFlight_upZ T.fl fun h2 held up2 => wpAny_throw (tk _ _ ?_)
    exact ⟨a, B, sI, pins, σ, H, cls, d, rfl, T.J, T.nb, T.up.trans up2, .inr (.inr (by rw [hs]; exact held)), T.na, T.os, T.ag, w⟩
  obtain ⟨_, _, _, oe, vs, tr, oT, ts, he, _, hd, h1, _⟩ := T.fl
  unfold PySem.passOn
  refine wpAny_bind (wpAny_field he hd h1 ?_)
  rw [if_neg (show ¬ ((Value.ref tr == Value.none) = true) by simp)]
  first
    | exact wpAny_bind (wpAny_pure (wpAny_bind go))
    | exact wpAny_bind go
/-- the clauses, one behind another -/
theorem Caught.clauses (T : Caught X pins σ H a B sI s cls d) (hs : X.stack = X.env :: X.outer) (hf : X.env.frame = some X.env.locals) (hN : X.N.Nodup) (ok : X.Ok) (tk : Takes X Wo) {hds : List ExceptHandler} {l : List ClM} (hk : ClOk X hds l) :
    wCl X.K Wo D l cls d σ H → wpAny (model X.prog X.w) X.A (handleBy (.ref a) X.env hds) (SP X pins D) X.xe s := by
  obtain ⟨n1, n2⟩ := T.off hf
  obtain ⟨oe, vs, he, hz, hd⟩ := T.fl.there
  have S1 := T.inv.suite he hd T.na n1 n2
  induction hk with
  | nil => exact fun w => T.on hs hf tk w
  | never => exact fun w => w.elim
  | @one x c io nm ts b0 su p1 p2 hds2 l2 hc hn hsu r ih =>
    rintro ⟨k, hk, yes, no⟩
    refine wpAny_handleBy_cons (codeAny_handlers_test ?_) (by intro z; cases z)
    have ty : PySem.W.Looks (model X.prog X.w) s.heap (typeOf (.ref a)) cls := fun A Q E s' kp q => wpAny_typeOf_ref (kp _ _ he) (by rw [hz.1]; exact q)
    have M := PySem.W.exm_one (M := model X.prog X.w) T.inv.kIn ty hk
    have nm1 : ∀ {Q : Value → Shared → Prop} {E : Value → Shared → Prop}, Q c s → wpAny (model X.prog X.w) (X.A.mark (some (.ref a))) (eval (.Name x p1) X.env) Q E s := fun {Q E} q => by
      rcases hc with ⟨hg, hb, hm | ⟨hm, hv, hnn⟩⟩
      · exact ld_glob (X := X.suite a ((a, oe) :: (X.pn ++ pins))) S1 hg hm q hb
      · exact ld_blt (X := X.suite a ((a, oe) :: (X.pn ++ pins))) S1 hg hm hv q hnn hb
    refine nm1 (M.here ?_)
    cases k with
    | false => exact ih (no rfl)
    | true =>
      have yes := yes rfl a T.na
      cases io with
      | none =>
        cases nm with
        | some n => exact hn.elim
        | none =>
          refine codeAny_handlers_suite ?_
          refine HandSPX.lands_againZ T.fl fun h4 fl4 up4 => ?_
          have T4 : Caught X pins σ H a B sI { s with heap := h4 } cls d := ⟨T.J, T.nb, T.up.trans up4, fl4, T.os, T.ag, T.na⟩
          obtain ⟨o4, v4, e4, z4, d4⟩ := fl4.there
          refine wpAny_mono ((hsu a o4 cls d (X.pn ++ pins) z4 ⟨_, d4⟩).run [] _ _ H _ (T4.inv.suite e4 d4 T.na n1 n2) yes) (fun f s6 h6 => ?_) fun _ _ z => False.elim z
          cases f with
          | ret u => obtain ⟨v6, σ6, H6, S6, r6, q6⟩ := h6; exact ⟨_, _, _, S6.unsuite ok, r6, q6⟩
          | next => obtain ⟨σ6, H6, S6, q6⟩ := h6; exact ⟨_, _, S6.unsuite ok, q6⟩
          | brk => obtain ⟨σ6, H6, S6, q6⟩ := h6; exact ⟨_, _, S6.unsuite ok, q6⟩
          | cont => obtain ⟨σ6, H6, S6, q6⟩ := h6; exact ⟨_, _, S6.unsuite ok, q6⟩
      | some i =>
        cases nm with
        | none => exact hn.elim
        | some n =>
          obtain ⟨hi, hl⟩ := hn
          refine codeAny_handlers_suite_as ?_
          refine HandSPX.lands_againZ T.fl fun h4 fl4 up4 => ?_
          have T4 : Caught X pins σ H a B sI { s with heap := h4 } cls d := ⟨T.J, T.nb, T.up.trans up4, fl4, T.os, T.ag, T.na⟩
          obtain ⟨o4, v4, e4, z4, d4⟩ := fl4.there
          refine store_ok (X := X.suite a ((a, o4) :: (X.pn ++ pins))) (v := .ref a) (T4.inv.suite e4 d4 T.na n1 n2) hN hi (.inl hl) rfl (fun s5 S5 => ?_) (.inr hl)
          refine wpAny_mono ((hsu a o4 cls d (X.pn ++ pins) z4 ⟨_, d4⟩).run [] s5 _ H _ S5 yes) (fun f s6 h6 => ?_) fun _ _ z => False.elim z
          cases f with
          | ret u => obtain ⟨v6, σ6, H6, S6, r6, q6⟩ := h6; exact gone_ok (S6.unsuite ok) hN hi hl fun s7 J7 => ⟨_, _, _, J7, r6, q6⟩
          | next => obtain ⟨σ6, H6, S6, q6⟩ := h6; exact gone_ok (S6.unsuite ok) hN hi hl fun s7 J7 => ⟨_, _, J7, q6⟩
          | brk => obtain ⟨σ6, H6, S6, q6⟩ := h6; exact gone_ok (S6.unsuite ok) hN hi hl fun s7 J7 => ⟨_, _, J7, q6⟩
          | cont => obtain ⟨σ6, H6, S6, q6⟩ := h6; exact gone_ok (S6.unsuite ok) hN hi hl fun s7 J7 => ⟨_, _, J7, q6⟩
/-- try: body, then the clauses -/
theorem ps_tryG {body : List Stmt} {h0 : ExceptHandler} {hds : List ExceptHandler} {l : List ClM} {pos : Pos} {tb : WX → TS} (hs : X.stack = X.env :: X.outer) (hf : X.env.frame = some X.env.locals) (hN : X.N.Nodup) (tk : Takes X Wo)
    (hb : ∀ (W : WX) (pn : List (Addr × Obj)) (xe : Value → Shared → Prop), Takes (X.tr pn xe) W → PassesOwn (model X.prog X.w) X.A X.env xe → PSs (X.tr pn xe) body (tb W)) (hh : ClOk X (h0 :: hds) l) :
    PS X (.Try body (h0 :: hds) [] [] pos) (fun D σ H => tb (wCl X.K Wo D l) D σ H) := ⟨fun pins s σ H D I q => by
  have ok := I.ok
  have fr : X.A.frames = some (X.env :: X.outer) := by rw [ok.frames, hs]
  refine wpAny_Try_except (wpAny_mono ((hb (wCl X.K Wo D l) (X.pn ++ pins) _ (fun u s2 xx => ?_) PassesOwn.looking).run [] s σ H D (I.toTry _) q) (fun f s1 h1 => ?_) fun _ _ z => z)
  · obtain ⟨a, B, sI, pins2, σ2, H2, cls, d, rfl, J2, nb, up, sky, na, os, ag, w⟩ := xx
    refine Sky.land Zc.steady fr hf (by rw [← hs]; exact sky) fun h3 fl3 up3 => ?_
    have T : Caught X pins σ2 H2 a B sI { s2 with heap := h3 } cls d := ⟨J2.ofTry ok, nb, up.trans up3, fl3, os, ag, na⟩
    exact T.clauses hs hf hN ok tk hh w
  · cases f with
    | ret u => obtain ⟨v, σ2, H2, J2, r, q⟩ := h1; exact ⟨v, σ2, H2, J2.ofTry ok, r, q⟩
    | next => obtain ⟨σ2, H2, J2, q⟩ := h1; exact wpAny_execs_nil ⟨σ2, H2, J2.ofTry ok, q⟩
    | brk => obtain ⟨σ2, H2, J2, q⟩ := h1; exact ⟨σ2, H2, J2.ofTry ok, q⟩
    | cont => obtain ⟨σ2, H2, J2, q⟩ := h1; exact ⟨σ2, H2, J2.ofTry ok, q⟩⟩
end
end PM
/-! Sm41: raise and try in the mirror. -/
noncomputable section
namespace PM
open PySem PySem.Spec L2
open PyProof.Rows hiding St
def Xc.kd : Xc → Kd
  | .own x => .own x
  | .ty n => .ty n
theorem Xc.kd_v (K : PySem.W.Frag) (x : Xc) : x.kd.v K = x.v K := by cases x <;> rfl
/-! ### raise -/
def sRaise (x f : Str) (m : EM) : SM := fun σ h => (m σ h).st σ fun w h1 => .exc ⟨.own x, [(f, w)]⟩ σ h1
/-- what a raise of the class x asks -/
structure RaiseF (P : Program) (w : World) (K : PySem.W.Frag) (mg : Str → Option Value) (base : Heap) (k : Nat) (x f : Str) : Prop where
  ex : ∃ (nid B iid : String) (bt : List Value) (fI : Addr) (fd : FuncData) (ps : List Str), OxB K (He.ga K x) nid bt ∧ XcF nid iid bt ∧ PySem.W.findIn K (.ref (He.ga K x)) "__init__" = some (some (.ref fI)) ∧ PySem.W.typeIn K (.ref fI) = some (.type "function") ∧
    FnOk P w K mg base (L2.CX P w) k fI fd ps (spX (He.ga K x) f) ∧ Binds K fd ps []
  gl : mg x = some (.ref (He.ga K x))
section
variable {X : Cx} {Wx : WX} {k : Nat} {x f : Str} {e : Expr} {me : EM} {p pos pos' : Pos}
theorem passes_no : Passes (L2.CX X.prog X.w) X (fun _ _ _ => False) := fun _ _ _ _ _ _ _ h => by
  obtain ⟨_, _, _, _, _, _, _, _, _, _, _, _, z⟩ := h
  exact z.elim
theorem ss_raise (R : RaiseF X.prog X.w X.K X.mg X.base k x f) (hc : X.calm = true) (hr : Room (k + 1) X.A) (tk : Takes X Wx) (hg : Gl X x) (he : SE X Wx e me) (hdb : (x == ("__debug__" : Str)) = false := by decide)
    (hs : starEach [e] X.env = (false, eval e X.env) :: starEach [] X.env := by rfl) (hpl : (backTo pos (starEach [] X.env)).any (·.1) = false := by rfl) : SS X Wx (.Raise (some (.Call (.Name x p) [e] [] pos)) none pos') (sRaise x f me) := by
  obtain ⟨nid, B, iid, bt, fI, fd, ps, T, FB, iC, tI, F, hb⟩ := R.ex
  refine ⟨ps_imp (ps_raise hc tk (pmk_ox T FB iC tI F hr hb passes_no hg R.gl (sa_cons he sa_nil hs).pa hdb hs hpl)) fun D σ H ⟨b, h, σm, eH, S, l, q⟩ => ?_⟩
  refine ⟨b, h, σm, eH, S, l, ?_⟩
  have q1 := PostS.st (rel := Rl X.K) l q
  cases em : me σm h with
  | stuck => rw [em] at q1; exact q1.elim
  | exc y g =>
    rw [em] at q1
    show Post X.K (Rls X.K) _ b _ ((me σm h).bind _)
    rw [em]; exact q1
  | ok w g =>
    rw [em] at q1
    show Post X.K (Rls X.K) _ b _ ((me σm h).bind _)
    rw [em]
    intro c vs ex s r
    obtain ⟨v, rfl, rv⟩ := rls1 r
    obtain ⟨c', w', g', e1, x1, s1, r1, q2⟩ := q1 c v ex s rv
    subst eH
    refine ⟨v, rfl, fun d hd => ?_⟩
    rw [← e1] at hd ⊢
    have ex2 := Ext.also (K := X.K) (o := .xd [(f, v)]) hd
    have := q2 (c'.also d (.xd [(f, v)])) σ (some d) ex2 (s1.also hd) ((l.ext x1).ext ex2) ⟨d, [(f, v)], rfl, upd_same, Rlk.cons (r1.ext ex2) .nil⟩
    exact this
end
/-! ### clauses -/
def exT (tb : ExT) (t c : Kd) : Option Bool := (tb.find? fun e => decide (e.1 = t ∧ e.2.1 = c)).map (·.2.2)
def ExOk (K : PySem.W.Frag) (tb : ExT) : Prop := ∀ e ∈ tb, PySem.W.exmOne K (e.1.v K) (e.2.1.v K) = some e.2.2
theorem exB_ok {K : PySem.W.Frag} {tb : ExT} (h : exB K tb = true) : ExOk K tb := fun e he => of_decide_eq_true (List.all_eq_true.mp h e he)
theorem exT_ok {K : PySem.W.Frag} {tb : ExT} {t c : Kd} {r : Bool} (hT : ExOk K tb) (e : exT tb t c = some r) : PySem.W.exmOne K (t.v K) (c.v K) = some r := by
  obtain ⟨z, e1, e2⟩ := Option.map_eq_some_iff.mp e
  have e3 : decide (z.1 = t ∧ z.2.1 = c) = true := List.find?_some (p := fun e : Kd × Kd × Bool => decide (e.1 = t ∧ e.2.1 = c)) e1
  obtain ⟨h3, h4⟩ := of_decide_eq_true e3
  rw [← h3, ← h4, ← e2]
  exact hT z (List.mem_of_find?_eq_some e1)
/-- a clause's mirror: its class, its name's slot, its suite -/
abbrev HkM := Option (Kd × Option Nat × (Xn → SM))
def endM (io : Option Nat) (r : RS) : RS := match io with
  | none => r
  | some i => match r with
    | .nx σ h => .nx (σ.set i none) h
    | .bk σ h => .bk (σ.set i none) h
    | .ct σ h => .ct (σ.set i none) h
    | r => r
def hkGo (tb : ExT) : List HkM → Xn → SM
  | [], x, σ, h => .exc x σ h
  | none :: _, _, _, _ => .stuck
  | some (D, io, hk) :: r, x, σ, h => match exT tb x.c.kd D with
    | some true => match io with
      | none => hk x σ h
      | some i => if i < σ.length then endM io (hk x (σ.set i none) h) else .stuck
    | some false => hkGo tb r x σ h
    | none => .stuck
def sTry (tb : ExT) (l : List HkM) (body : SM) : SM := fun σ h => match body σ h with
  | .exc x σ1 h1 => hkGo tb l x σ1 h1
  | r => r
/-- a suite's reading -/
def tHk (K : PySem.W.Frag) (io : Option Nat) (a : Addr) (cls : Value) (d : Option Addr) (hk : Xn → SM) : TS := fun D σ H => ∃ (b : Bs) (h : MH) (σm : MS) (x : Xn), b.H = H ∧ Sim K b h ∧ SlM K b σm σ ∧ (∀ i, io = some i → σ[i]? = some (some (.ref a))) ∧ cls = x.c.v K ∧ XfR K b x.fs d ∧ PostS K (fun _ _ _ _ => False) b D (hk x σm h)
structure HkS (X : Cx) (io : Option Nat) (sts : List Stmt) (hk : Xn → SM) : Prop where
  run : ∀ (a : Addr) (oe : Obj) (cls : Value) (d : Option Addr) (pn : List (Addr × Obj)), Zc cls d oe → (∃ vs, oe.data = .fields vs) → PSs (X.suite a ((a, oe) :: pn)) sts (tHk X.K io a cls d hk)
inductive HksOk (X : Cx) (tb : ExT) : List ExceptHandler → List HkM → Prop
  | nil : HksOk X tb [] []
  | never {hs : List ExceptHandler} : HksOk X tb hs [none]
  | one {x : Str} {D : Kd} {io : Option Nat} {nm : Option Str} {hk : Xn → SM} {b0 : Stmt} {su : List Stmt} {p1 p2 : Pos} {hs : List ExceptHandler} {l : List HkM} (hc : Names X x (D.v X.K))
      (hn : match io, nm with
        | none, none => True
        | some i, some n => X.N[i]? = some n ∧ X.env.kindOf n = some .local
        | _, _ => False) (hsu : HkS X io (b0 :: su) hk) (r : HksOk X tb hs l) : HksOk X tb (.ExceptHandler (some (.Name x p1)) nm (b0 :: su) p2 :: hs) (some (D, io, hk) :: l)
section
variable {X : Cx} {Wx : WX} {tb : ExT}
def clsOf (X : Cx) (l : List HkM) : List ClM := l.map fun q => q.map fun q => (q.1.v X.K, q.2.1, fun a cls d => tHk X.K q.2.1 a cls d q.2.2)
theorem clOk_of {hs : List ExceptHandler} {l : List HkM} (h : HksOk X tb hs l) : ClOk X hs (clsOf X l) := by
  induction h with
  | nil => exact .nil
  | never => exact .never
  | one hc hn hsu r ih => exact .one hc hn (fun a oe cls d pn z f => hsu.run a oe cls d pn z f) ih
theorem set_none {K : PySem.W.Frag} {b : Bs} {σm : MS} {σ : L2.St} {i : Nat} {v : Option V} (s : SlM K b σm σ) : SlM K b (σm.set i none) (σ.set i v) := by
  refine ⟨by simp [s.len], fun j u e => ?_⟩
  by_cases hj : i = j
  · subst hj
    by_cases hi : i < σm.length
    · rw [List.getElem?_set_self hi] at e; cases e
    · rw [List.getElem?_eq_none (by simpa using hi)] at e; cases e
  · rw [List.getElem?_set_ne hj] at e ⊢
    exact s.at_ j u e
theorem endM_post {K : PySem.W.Frag} {b : Bs} {D : Ends} {i : Nat} {r : RS} (q : PostS K Wx b D (endM (some i) r)) (hx : ∀ x σ h, r ≠ .exc x σ h) : PostS K (fun _ _ _ _ => False) b (endIo (some i) D) r := by
  cases r with
  | nx σ h => exact fun c σ2 x s l => q c _ x s (set_none l)
  | bk σ h => exact fun c σ2 x s l => q c _ x s (set_none l)
  | ct σ h => exact fun c σ2 x s l => q c _ x s (set_none l)
  | rt w h => exact q
  | exc x σ h => exact absurd rfl (hx x σ h)
  | stuck => exact q
/-- no exception leaves a suite -/
def HkNx (l : List HkM) : Prop := ∀ q ∈ l, ∀ r, q = some r → ∀ x σ h y σ2 h2, r.2.2 x σ h ≠ .exc y σ2 h2
theorem hk_read {D : Ends} : ∀ {l : List HkM}, ExOk X.K tb → HkNx l → ∀ {b : Bs} {h : MH} {σm : MS} {σ : L2.St} {x : Xn} {d : Option Addr}, Sim X.K b h → SlM X.K b σm σ → XfR X.K b x.fs d → PostS X.K Wx b D (hkGo tb l x σm h) → wCl X.K Wx D (clsOf X l) (x.c.v X.K) d σ b.H
  | [], _, _, b, h, σm, σ, x, d, S, s, r, q => q b σ d .refl S s r
  | none :: _, _, _, _, _, _, _, _, _, _, _, _, q => q.elim
  | some (E, io, hk) :: l, hT, hn, b, h, σm, σ, x, d, S, s, r, q => by
    have nx := hn _ (.head _) _ rfl
    unfold hkGo at q
    cases e : exT tb x.c.kd E with
    | none => rw [e] at q; exact q.elim
    | some k =>
      rw [e] at q
      have ok := exT_ok hT e
      rw [Xc.kd_v] at ok
      refine ⟨k, ok, fun z a na => ?_, fun z => ?_⟩
      · subst z
        dsimp only at q
        cases io with
        | none =>
          refine ⟨b, h, σm, x, rfl, S, s, fun i (z : (none : Option Nat) = some i) => (by cases z), rfl, r, ?_⟩
          have q : PostS X.K Wx b D (hk x σm h) := q
          show PostS X.K (fun _ _ _ _ => False) b D (hk x σm h)
          cases er : hk x σm h with
          | exc y g _ => exact absurd er (nx x σm h y _ _)
          | _ => rw [er] at q; exact q
        | some i =>
          dsimp only at q
          split at q
          · rename_i hi
            refine ⟨b, h, σm.set i none, x, rfl, S, set_none s, fun j z => ?_, rfl, r, endM_post q fun y g h2 z => nx x _ h y g h2 z⟩
            cases z
            exact List.getElem?_set_self (by rw [← s.len]; exact hi)
          · exact q.elim
      · subst z
        exact hk_read hT (fun q hq => hn q (.tail _ hq)) S s r q
theorem ss_try {body : List Stmt} {h0 : ExceptHandler} {hds : List ExceptHandler} {l : List HkM} {mb : SM} {pos : Pos} (hs : X.stack = X.env :: X.outer) (hf : X.env.frame = some X.env.locals) (hN : X.N.Nodup) (tk : Takes X Wx) (hT : ExOk X.K tb)
    (hb : ∀ (W : WX) (pn : List (Addr × Obj)) (xe : Value → Shared → Prop), Takes (X.tr pn xe) W → PassesOwn (model X.prog X.w) X.A X.env xe → SSs (X.tr pn xe) W body mb) (hn : HkNx l) (hh : HksOk X tb (h0 :: hds) l) : SS X Wx (.Try body (h0 :: hds) [] [] pos) (sTry tb l mb) := by
  refine ⟨ps_imp (ps_tryG (tb := fun W => tSimS X.K W mb) hs hf hN tk (fun W pn xe t p => (hb W pn xe t p).ps) (clOk_of hh)) fun D σ H ⟨b, h, σm, e, S, s, q⟩ => ⟨b, h, σm, e, S, s, ?_⟩⟩
  unfold sTry at q
  cases em : mb σm h with
  | exc x σ1 h1 =>
    rw [em] at q
    exact fun c σ2 d x2 s2 l2 r2 => hk_read hT hn s2 l2 r2 (PostS.ext q x2)
  | _ => rw [em] at q; exact q
/-! ### suites -/
/-- a thing in a suite's display: a constant, the exception's field -/
inductive HE where
  | cst (w : W) | fld (C f : Str)
def heW (k : HE) (x : Xn) : Option W := match k with
  | .cst w => some w
  | .fld C f => match x.c with
    | .own y => if y = C then fldM x.fs f else none
    | _ => none
def hesW (ks : List HE) (x : Xn) : Option (List W) := mapO (fun k => heW k x) ks
inductive HeOk (X : Cx) (i : Nat) : Expr → HE → Prop
  | cst {e : Expr} {w : W} {v : V} (hp : ∀ a pn, PE (X.suite a pn) e (tC v)) (hr : ∀ b, Rl X.K b w v) : HeOk X i e (.cst w)
  | fld {n C f : Str} {p p' : Pos} (hp : ∀ a pn, PE (X.suite a pn) (.Name n p) (tVar i)) (T : XfC X.K (He.ga X.K C)) (hno : PySem.W.findIn X.K (.ref (He.ga X.K C)) f = some none) (hb : attributeBase (.Name n p) f X.env (eval (.Name n p) X.env) = eval (.Name n p) X.env) : HeOk X i (.Attribute (.Name n p) f p') (.fld C f)
inductive HesOk (X : Cx) (i : Nat) : List Expr → List HE → Prop
  | nil : HesOk X i [] []
  | cons {e : Expr} {k : HE} {es : List Expr} {ks : List HE} (h : HeOk X i e k) (r : HesOk X i es ks) (hs : starEach (e :: es) X.env = (false, eval e X.env) :: starEach es X.env) : HesOk X i (e :: es) (k :: ks)
theorem he_pe {i : Nat} {e : Expr} {k : HE} (h : HeOk X i e k) (a : Addr) (oe : Obj) (cls : Value) (d : Option Addr) (pn : List (Addr × Obj)) (z : Zc cls d oe) (f : ∃ vs, oe.data = .fields vs) :
    ∃ te, PE (X.suite a ((a, oe) :: pn)) e te ∧ ∀ (b : Bs) (σ : L2.St) (x : Xn) (w : W) (Q : VK), σ[i]? = some (some (.ref a)) → cls = x.c.v X.K → XfR X.K b x.fs d → heW k x = some w → (∀ v, Rl X.K b w v → Q v b.H) → te σ b.H Q := by
  cases h with
  | cst hp hr => exact ⟨_, hp a _, fun b σ x w Q _ _ _ ew q => by cases ew; exact q _ (hr b)⟩
  | @fld n C g p p' hp T hno hb =>
    refine ⟨_, pe_xf T hno z f (hp a _) hb, fun b σ x w Q si ec r ew q => ?_⟩
    obtain ⟨xc, fs⟩ := x
    unfold heW at ew
    dsimp only at ew
    split at ew
    · rename_i y
      split at ew
      · rename_i ey
        subst ey
        have r : XfR X.K b fs d := r
        unfold XfR at r
        split at r
        · cases ew
        · obtain ⟨dd, ps, ed, h1, rk⟩ := r
          obtain ⟨v, lv, rv⟩ := rk.lookup ew
          exact ⟨_, si, rfl, ec, dd, ps, v, ed, h1, lv, q v rv⟩
      · cases ew
    · cases ew
theorem hes_pa {i : Nat} {es : List Expr} {ks : List HE} (h : HesOk X i es ks) (a : Addr) (oe : Obj) (cls : Value) (d : Option Addr) (pn : List (Addr × Obj)) (z : Zc cls d oe) (f : ∃ vs, oe.data = .fields vs) :
    ∃ ta, PA (X.suite a ((a, oe) :: pn)) es ta ∧ ∀ (b : Bs) (σ : L2.St) (x : Xn) (ws : List W) (Q : List V → Hp → Prop), σ[i]? = some (some (.ref a)) → cls = x.c.v X.K → XfR X.K b x.fs d → hesW ks x = some ws → (∀ vs, Rls X.K b ws vs → Q vs b.H) → ta σ b.H Q := by
  induction h with
  | nil => exact ⟨_, pa_nil, fun b σ x ws Q _ _ _ ew q => by cases ew; exact q _ .nil⟩
  | @cons e k es ks h r hs ih =>
    obtain ⟨te, p1, q1⟩ := he_pe h a oe cls d pn z f
    obtain ⟨ta, p2, q2⟩ := ih
    refine ⟨_, pa_cons p1 p2 hs, fun b σ x ws Q si ec rf ew q => ?_⟩
    unfold hesW mapO at ew
    cases e1 : heW k x with
    | none => rw [e1] at ew; cases ew
    | some w =>
      rw [e1] at ew
      cases e2 : hesW ks x with
      | none => unfold hesW at e2; rw [e2] at ew; cases ew
      | some ws' =>
        have e3 := e2
        unfold hesW at e2
        rw [e2] at ew
        cases ew
        exact q1 b σ x w _ si ec rf e1 fun v rv => q2 b σ x ws' _ si ec rf e3 fun vs rvs => q _ (.cons rv rvs)
/-- return [..] -/
def hkL (ks : List HE) : Xn → SM := fun x _ h => match hesW ks x with
  | some ws => if ws.length ≤ sizeLine then .rt (.ref h.length) (h ++ [.lst ws]) else .stuck
  | none => .stuck
/-- return a thing -/
def hkV (k : HE) : Xn → SM := fun x _ h => match heW k x with
  | some w => .rt w h
  | none => .stuck
theorem hk_retL {i : Nat} {es : List Expr} {ks : List HE} {p p' : Pos} (h : HesOk X i es ks) : HkS X (some i) [.Return (some (.List es p)) p'] (hkL ks) := ⟨fun a oe cls d pn z f => by
  obtain ⟨ta, p1, q1⟩ := hes_pa h a oe cls d pn z f
  refine pss_imp (pss_one (ps_ret (pe_lst p1))) fun D σ H ⟨b, h, σm, x, eH, S, s, si, ec, rf, q⟩ => ?_
  subst eH
  unfold hkL at q
  cases e : hesW ks x with
  | none => rw [e] at q; exact q.elim
  | some ws =>
    rw [e] at q
    dsimp only at q
    split at q
    · rename_i hz
      refine q1 b σ x ws _ (si i rfl) ec rf e fun vs rv => ⟨by rw [← rv.length]; exact hz, fun p hp => ?_⟩
      obtain ⟨ex, S2, r2⟩ := S.pushL hp rv
      exact q _ _ ex S2 r2
    · exact q.elim⟩
theorem hk_retV {i : Nat} {e : Expr} {k : HE} {p' : Pos} (h : HeOk X i e k) : HkS X (some i) [.Return (some e) p'] (hkV k) := ⟨fun a oe cls d pn z f => by
  obtain ⟨te, p1, q1⟩ := he_pe h a oe cls d pn z f
  refine pss_imp (pss_one (ps_ret p1)) fun D σ H ⟨b, h, σm, x, eH, S, s, si, ec, rf, q⟩ => ?_
  subst eH
  unfold hkV at q
  cases e1 : heW k x with
  | none => rw [e1] at q; exact q.elim
  | some w =>
    rw [e1] at q
    exact q1 b σ x w _ (si i rfl) ec rf e1 fun v rv => q b v .refl S rv⟩
theorem hkL_nx (ks : List HE) (x : Xn) (σ : MS) (h : MH) (y : Xn) (σ2 : MS) (h2 : MH) : hkL ks x σ h ≠ .exc y σ2 h2 := by
  unfold hkL
  split
  · split <;> (intro z; cases z)
  · intro z; cases z
theorem hkV_nx (k : HE) (x : Xn) (σ : MS) (h : MH) (y : Xn) (σ2 : MS) (h2 : MH) : hkV k x σ h ≠ .exc y σ2 h2 := by
  unfold hkV
  split <;> (intro z; cases z)
end
end PM
/-! Sm42: what a text must show of an exception class of its own so that it may be raised. -/
noncomputable section
namespace PM
open PySem PySem.Spec L2
open PyProof.Rows hiding St
open PySem.F in
theorem kXc : XcF "LookupError.__new__" "KeyError.__init__" kBt :=
  { nw := ⟨"LookupError", "LookupError.__init__", _, excBase_LookupError, (by decide +kernel)⟩, nA := (by decide +kernel), nN := (by decide +kernel),
    ini := ⟨"KeyError", (.of (owner := "KeyError") (n := "__init__") (by (rw [typeLookup_type, builtinLookup_eq_fast]); kernel_rfl) (by decide +kernel) (by decide +kernel) (by decide +kernel) (by first | exact .inl (by decide +kernel) | exact .inr (by decide +kernel)) (by (rw [isSubtype_type]); kernel_rfl)),
      (entryFor_alias (id' := "BaseException.__init__") (by (rw [fastTable_eq_tree]); kernel_rfl) (by first | rfl | decide +kernel) (by decide +kernel) (by (rw [fastTable_eq_tree]); kernel_rfl)),
      (by kernel_rfl), (by kernel_rfl), (by kernel_rfl), (by decide +kernel), (by decide +kernel)⟩ }
open PySem.F in
theorem kStore : StoreFacts "KeyError" kBt "object.__setattr__" "object" :=
  { mro := (by kernel_rfl),
    slot := (.of (owner := "object") (n := "__setattr__") (by (rw [typeLookup_type, builtinLookup_eq_fast]); kernel_rfl) (by decide +kernel) (by decide +kernel) (by decide +kernel) (by first | exact .inl (by decide +kernel) | exact .inr (by decide +kernel)) (by (rw [isSubtype_type]); kernel_rfl)),
    entry := entry_object_sa, kind := (by decide +kernel), split := (by decide +kernel), hasOwner := (by decide +kernel),
    args := (fun a b c => by (unfold argsOk); kernel_rfl), passes := (fun self => by kernel_rfl) }
theorem Xb.facts : ∀ b : Xb, XcF b.nid b.iid b.bt
  | .value => .of PySem.F.excBase_ValueError
  | .lookup => .of PySem.F.excBase_LookupError
  | .key => kXc
theorem Xb.store : ∀ b : Xb, StoreFacts b.n b.bt "object.__setattr__" "object"
  | .value => PySem.F.store_ValueError
  | .lookup => PySem.F.store_LookupError
  | .key => kStore
theorem cfB_ok {o : Option PySem.W.CFound} {iid : String} (h : cfB o iid = true) : o = some (.val (.builtin iid)) := by
  unfold cfB at h
  split at h
  · rw [of_decide_eq_true h]
  · cases h
structure OxC (K : PySem.W.Frag) (x p0 f : Str) (b : Xb) : Prop where
  ox : OxB K (He.ga K x) b.nid b.bt
  no : PySem.W.findIn K (.ref (He.ga K x)) f = some none
  iC : PySem.W.findIn K (.ref (He.ga K x)) "__init__" = some (some (.ref (adM x "__init__" K)))
  tI : PySem.W.typeIn K (.ref (adM x "__init__" K)) = some (.type "function")
  op : OxP K (He.ga K p0) b.iid
  xf : XfC K (He.ga K x)
theorem oxcB_ok {K : PySem.W.Frag} {x p0 f : Str} {b : Xb} (h : oxcB K x p0 f b = true) : OxC K x p0 f b := by
  unfold oxcB at h
  simp only [Bool.and_eq_true, decide_eq_true_eq] at h
  obtain ⟨h1, h2, h3, h4, h5, h6, h7, h8, h9, h10, h11, h12, h13, h14⟩ := h
  exact ⟨⟨h1, h2, h3, He.eqO_ok h4, h5, h6, h7⟩, h8, He.eqO_ok h9, h10, ⟨h11, cfB_ok h12, He.eqO_ok h13, by cases b <;> rfl⟩, xfB_ok h14⟩
theorem taker_none {K : PySem.W.Frag} {C : Addr} {f : Str} (h : PySem.W.findIn K (.ref C) f = some none) : PySem.W.takerIn K C f = some none := by
  unfold PySem.W.takerIn
  rw [h]; rfl
section
variable {P : Program} {w : World} {K : PySem.W.Frag} {mg : Str → Option Value} {base : Heap} {x p0 f qual : Str} {b : Xb} {params : Arguments} {body : List Stmt} {scope : Scope} {dvs : List V} {kws : List (Str × V)} {fd : FuncData} {N : List Str}
/-- what the body of such an __init__ does -/
def tOxBody (C : Addr) (f m : Str) : TS := tSeq (tDrop (tOxI C (tCons (tVar 0) (tCons (tC (.str m)) tNil)))) (tOxP C f (tVar 0) (tVar 1))
theorem raise_mk {m : Str} {ps : List Str} (o : OxC K x p0 f b) (hgx : mg x = some (.ref (He.ga K x))) (F : FunD K "__init__" qual params body scope dvs kws (adM x "__init__" K) fd) (S : FnScope N ps scope) (hps : ps.length = 2) (hb : Binds K fd ps [])
    (hN : 2 ≤ N.length)
    (hbody : ∀ (cdv : Value) (A : Around) (outer : List Env) (s : Shared) (H : Hp) (E : XK), PSs (cxOf (L2.CX P w) P w K mg base N qual scope (adM x "__init__" K) cdv A outer s H E) body (tOxBody (He.ga K x) f m)) : RaiseF P w K mg base 1 x f :=
  ⟨⟨b.nid, b.n, b.iid, b.bt, _, fd, ps, o.ox, b.facts, o.iC, o.tI, F.ok (k := 0) S (fun vs H Q E ⟨a, y, e, _⟩ => by rw [e, hps]; rfl) (fun cdv A outer s H vs Q E hr sp => by
    obtain ⟨a, y, e, h1, h2⟩ := sp
    subst e
    refine ⟨_, hbody cdv A outer s H E, ?_⟩
    have s0 : (L2.start N [V.ref a, y])[0]? = some (some (V.ref a)) := by simp [L2.start]
    have s1 : (L2.start N [V.ref a, y])[1]? = some (some y) := by simp [L2.start]
    exact ⟨_, s0, ⟨a, [.str m], rfl, by simp, h1, ⟨_, s1, _, s0, a, rfl, h1, h2⟩⟩⟩), hb⟩, hgx⟩
end
end PM
/-! Sm43: split, partition, int(text), max and min of a list, own operators, own subscripts, own texts, lists taken apart, f-strings. -/
noncomputable section
namespace PM
open PySem PySem.Spec L2
open PyProof.Rows hiding St
section
variable {X : Cx} {Wx : WX}
/-! ### texts -/
def bSplit (ws : List W) (h : MH) : R W := match ws with
  | [.str a, .str c] => if c.length ≠ 0 ∧ a.length + 2 ≤ sizeLine then .ok (.ref h.length) (h ++ [.lst ((Txt.split a c).map W.str)]) else .stuck
  | _ => .stuck
theorem cs_split : CallS X Wx (.builtin "str.split") bSplit := .mt mt_split fun σ b h ws vs Q S r q => by
  unfold bSplit at q
  split at q
  · rename_i x y
    cases r with
    | cons r1 rr => cases rr with
      | cons r2 rr =>
        cases rr; cases r1; cases r2
        split at q
        · rename_i hz
          exact ⟨_, _, rfl, _, _, rfl, rfl, by simpa using hz.1, hz.2, fun p hp => Post.lst S (rls_strs _) q hp⟩
        · exact q.elim
  · exact q.elim
def bPart (ws : List W) (h : MH) : R W := match ws with
  | [.str a, .str c] => if c.length ≠ 0 ∧ a.length ≤ sizeLine then .ok (.tup [.str (Txt.partition a c).1, .str (Txt.partition a c).2.1, .str (Txt.partition a c).2.2]) h else .stuck
  | _ => .stuck
theorem cs_part : CallS X Wx (.builtin "str.partition") bPart := .mt mt_partition fun σ b h ws vs Q S r q => by
  unfold bPart at q
  split at q
  · rename_i x y
    cases r with
    | cons r1 rr => cases rr with
      | cons r2 rr =>
        cases rr; cases r1; cases r2
        split at q
        · rename_i hz
          exact ⟨_, _, rfl, _, _, rfl, rfl, by simpa using hz.1, hz.2, fun p hp => Post.tup S (.cons (.str _) (.cons (.str _) (.cons (.str _) .nil))) q hp⟩
        · exact q.elim
  · exact q.elim
def bInt (ws : List W) (h : MH) : R W := match ws with
  | [.int i] => .ok (.int i) h
  | [.bl k] => .ok (.int (if k then 1 else 0)) h
  | [.str a] => match PySem.intText? a with
    | some n => if a.length ≤ 640 then .ok (.int n) h else .stuck
    | none => .stuck
  | _ => .stuck
theorem cs_int : CallS X Wx (.type "int") bInt := .of (callR_or call_int1 call_int_str) fun σ b h ws vs Q S r q => by
  unfold bInt at q
  split at q
  · obtain ⟨v, rfl, r1⟩ := rls1 r
    cases r1
    exact .inl (.inl ⟨_, rfl, q.here S (.int _)⟩)
  · obtain ⟨v, rfl, r1⟩ := rls1 r
    cases r1
    exact .inl (.inr ⟨_, rfl, q.here S (.int _)⟩)
  · obtain ⟨v, rfl, r1⟩ := rls1 r
    cases r1
    split at q
    · rename_i n e
      split at q
      · rename_i hz; exact .inr ⟨_, _, rfl, e, hz, q.here S (.int _)⟩
      · exact q.elim
    · exact q.elim
  · exact q.elim
/-! ### the greatest, the least of a list -/
def maxI (k : Int) (l : List Int) : Int := l.foldl max k
def minI (k : Int) (l : List Int) : Int := l.foldl min k
theorem maxI_ub (l : List Int) : ∀ k : Int, k ≤ maxI k l ∧ ∀ y ∈ l, y ≤ maxI k l := by
  unfold maxI
  induction l with
  | nil => exact fun k => ⟨Int.le_refl _, fun y h => by cases h⟩
  | cons a l ih =>
    intro k
    obtain ⟨h1, h2⟩ := ih (max k a)
    refine ⟨Int.le_trans (Int.le_max_left _ _) h1, fun y h => ?_⟩
    cases h with
    | head => exact Int.le_trans (Int.le_max_right _ _) h1
    | tail _ h => exact h2 y h
theorem maxI_mem (l : List Int) : ∀ k : Int, maxI k l ∈ k :: l := by
  unfold maxI
  induction l with
  | nil => exact fun k => .head _
  | cons a l ih =>
    intro k
    have := ih (max k a)
    rcases List.mem_cons.mp this with h | h
    · rw [List.foldl_cons, h]
      rcases Int.le_total k a with z | z
      · rw [Int.max_eq_right z]; exact .tail _ (.head _)
      · rw [Int.max_eq_left z]; exact .head _
    · exact .tail _ (.tail _ h)
theorem minI_lb (l : List Int) : ∀ k : Int, minI k l ≤ k ∧ ∀ y ∈ l, minI k l ≤ y := by
  unfold minI
  induction l with
  | nil => exact fun k => ⟨Int.le_refl _, fun y h => by cases h⟩
  | cons a l ih =>
    intro k
    obtain ⟨h1, h2⟩ := ih (min k a)
    refine ⟨Int.le_trans h1 (Int.min_le_left _ _), fun y h => ?_⟩
    cases h with
    | head => exact Int.le_trans h1 (Int.min_le_right _ _)
    | tail _ h => exact h2 y h
theorem minI_mem (l : List Int) : ∀ k : Int, minI k l ∈ k :: l := by
  unfold minI
  induction l with
  | nil => exact fun k => .head _
  | cons a l ih =>
    intro k
    have := ih (min k a)
    rcases List.mem_cons.mp this with h | h
    · rw [List.foldl_cons, h]
      rcases Int.le_total k a with z | z
      · rw [Int.min_eq_left z]; exact .head _
      · rw [Int.min_eq_right z]; exact .tail _ (.head _)
    · exact .tail _ (.tail _ h)
def bExtr (f : Int → List Int → Int) (ws : List W) (h : MH) : R W := match ws with
  | [x] => match lstW h x with
    | some xs => match intsOf xs with
      | some (k :: ks) => .ok (.int (f k ks)) h
      | _ => .stuck
    | none => .stuck
  | _ => .stuck
theorem extr_read {f : Int → List Int → Int} {K : PySem.W.Frag} {We : Value → Option Addr → Hp → Prop} {b : Bs} {h : MH} {ws : List W} {vs : List V} {Q : VK} (S : Sim K b h) (r : Rls K b ws vs) (q : Post K (Rl K) We b Q (bExtr f ws h)) :
    ∃ (a : Addr) (k : Int) (ks : List Int), vs = [V.ref a] ∧ SqL K b.H a ((k :: ks).map V.int) ∧ Q (.int (f k ks)) b.H := by
  unfold bExtr at q
  split at q
  · rename_i x
    obtain ⟨v, rfl, r1⟩ := rls1 r
    split at q
    · rename_i xs e
      obtain ⟨a, us, rfl, hs, rr⟩ := S.listW r1 e
      split at q
      · rename_i k ks e2
        rw [intsOf_ok rr e2] at hs
        exact ⟨a, k, ks, rfl, hs, q.here S (.int _)⟩
      · exact q.elim
    · exact q.elim
  · exact q.elim
theorem cs_maxL (hc : X.calm = true) : CallS X Wx (.builtin "max") (bExtr maxI) := .of (cr_max hc) fun σ b h ws vs Q S r q => by
  obtain ⟨a, k, ks, rfl, hs, q⟩ := extr_read S r q
  refine ⟨a, k :: ks, rfl, hs, by simp, fun m h1 h2 => ?_⟩
  have e : m = maxI k ks := Int.le_antisymm (by
    rcases List.mem_cons.mp h1 with z | z
    · rw [z]; exact (maxI_ub ks k).1
    · exact (maxI_ub ks k).2 m z) (h2 _ (maxI_mem ks k))
  rw [e]; exact q
theorem cs_minL (hc : X.calm = true) : CallS X Wx (.builtin "min") (bExtr minI) := .of (cr_min hc) fun σ b h ws vs Q S r q => by
  obtain ⟨a, k, ks, rfl, hs, q⟩ := extr_read S r q
  refine ⟨a, k :: ks, rfl, hs, by simp, fun m h1 h2 => ?_⟩
  have e : m = minI k ks := Int.le_antisymm (h2 _ (minI_mem ks k)) (by
    rcases List.mem_cons.mp h1 with z | z
    · rw [z]; exact (minI_lb ks k).1
    · exact (minI_lb ks k).2 m z)
  rw [e]; exact q
/-! ### own operators: both hands of the class -/
variable {f : Addr} {C : Str} {m : List W → MH → R W}
def bOpI (C : Str) (m : List W → MH → R W) : W → W → MH → R W := fun x y h => match insW h x, insW h y with
  | some (C1, _), some (C2, _) => if C1 = C ∧ C2 = C then m [x, y] h else .stuck
  | _, _ => .stuck
def sfB (K : PySem.W.Frag) (C : Str) : Bool := PySem.W.selfFirst K (He.ga K C)
theorem os_opI {op : Operator} (hc : PySem.W.selfFirst X.K (He.ga X.K C) = true) (cm : CalM X Wx f 2 m)
    (hs : PySem.W.findIn X.K (.ref (He.ga X.K C)) (PySem.dunder op.info.2) = some (some (.ref f))) (hf : PySem.W.isFn X.K (.ref f) = true) : OpS X Wx (binaryOp op) (bOpI C m) := ⟨fun pins s σ b h x y x' y' v u Q I S r1 r2 rv ru q => by
  unfold bOpI at q
  split at q
  · rename_i C1 fs1 C2 fs2 e1 e2
    by_cases hC : C1 = C ∧ C2 = C
    case neg => rw [if_neg hC] at q; exact q.elim
    rw [if_pos hC] at q
    obtain ⟨rfl, rfl⟩ := hC
    obtain ⟨ad, dx, ps, rfl, h3, _⟩ := S.insW r1 e1
    obtain ⟨ad2, dx2, ps2, rfl, h4, _⟩ := S.insW r2 e2
    obtain ⟨mA, O, _⟩ := ins_get I.hok h3
    obtain ⟨od, J, _⟩ := O.look
    obtain ⟨mA2, O2, _⟩ := ins_get I.hok h4
    obtain ⟨od2, J2, _⟩ := O2.look
    obtain ⟨mm, hF⟩ := I.fr
    cases rv; cases ru
    refine PySem.W.binop_K hF I.ok.mod.kin J J2.type hc hs hf ?_
    refine wpAny_mono (cm.here (us := [.ref ad, .ref ad2]) (vs := [.ref ad, .ref ad2]) I (.cons rfl (.cons rfl .nil)) S (.cons r1 (.cons r2 .nil)) rfl q) (fun w s' hq => ?_) fun _ _ z => z
    obtain ⟨z, H', I', rz, q'⟩ := id hq
    cases z <;> first | (obtain ⟨_, rz⟩ := rz; subst rz; exact hq) | (cases rz; exact hq)
  · exact q.elim⟩
/-! ### own subscripts -/
def bGetI (C : Str) (m : List W → MH → R W) : W → W → MH → R W := fun x y h => match insW h x with
  | some (C', _) => if C' = C then m [x, y] h else .stuck
  | none => .stuck
/-- what the text says of an own __getitem__ -/
def getB (K : PySem.W.Frag) (C : Str) : Bool := sltB K C "__getitem__" && PySem.W.fnIn K (adM C "__getitem__" K)
theorem getB_ok {K : PySem.W.Frag} {C : Str} (h : getB K C = true) : PySem.W.findIn K (.ref (He.ga K C)) "__getitem__" = some (some (.ref (adM C "__getitem__" K))) ∧ PySem.W.fnIn K (adM C "__getitem__" K) = true ∧ PySem.W.isFn K (.ref (adM C "__getitem__" K)) = true := by
  obtain ⟨h1, h2⟩ := Bool.and_eq_true_iff.mp h
  exact ⟨(sltB_ok h1).1, h2, (sltB_ok h1).2⟩
theorem se_getI {a c : Expr} {ma mc : EM} {pos : Pos} (cm : CalM X Wx f 2 m) (hs : PySem.W.findIn X.K (.ref (He.ga X.K C)) "__getitem__" = some (some (.ref f)) ∧ PySem.W.fnIn X.K f = true ∧ PySem.W.isFn X.K (.ref f) = true) (ha : SE X Wx a ma) (hc : SE X Wx c mc)
    (hsl : ∀ o i, subscripted c true o i = runValue (.builtin "lifetime.subscript" ⟨[o, i], []⟩)) : SE X Wx (.Subscript a c pos) (e2 (bGetI C m) ma mc) := ⟨⟨fun pins s σ H Q I q => by
  obtain ⟨b, h, σm, rfl, S, l, q⟩ := q
  refine Subscript_ (thn (ha.run I S l (Post.bind q)) fun v s1 ⟨x', H1, I1, r1, c1, x, h1, e1, E1, S1, l1, q1⟩ => ?_)
  subst e1
  refine thn (hc.run I1 S1 (l.ext E1) (Post.bind q1)) fun u s2 ⟨y', H2, I2, r2, c2, y, h2, e2, E2, S2, l2, q2⟩ => ?_
  subst e2
  have r1m := l1.ext E2
  unfold bGetI at q2
  split at q2
  · rename_i C' fs ei
    by_cases hC : C' = C
    case neg => rw [if_neg hC] at q2; exact q2.elim
    rw [if_pos hC] at q2
    subst hC
    obtain ⟨ad, dx, ps, rfl, h3, _⟩ := S2.insW r1m ei
    obtain ⟨mA, O, _⟩ := ins_get I2.hok h3
    obtain ⟨od, J, _⟩ := O.look
    obtain ⟨mm, hF⟩ := I2.fr
    cases r1
    exact PySem.W.sub_K hF I2.ok.mod.kin J hs.1 hs.2.1 hs.2.2 (cm.in1 (us := [.ref ad, u]) (vs := [.ref ad, y']) I2 (.cons rfl (.cons r2 .nil)) S2 (.cons r1m (.cons l2 .nil)) rfl q2) (hsl _ _)
  · exact q2.elim⟩⟩
/-- o[i] of a list, tuple, text, dict or an own class -/
def bIxO (i : W → W → MH → R W) : W → W → MH → R W := fun x y h => byK x h bDix i bIx x y h
theorem se_ixO {k : Nat} {a c : Expr} {ma mc : EM} {i : W → W → MH → R W} {pos : Pos} (hr : Room k X.A) (ha : SE X Wx a ma) (hc : SE X Wx c mc) (hi : SE X Wx (.Subscript a c pos) (e2 i ma mc)) (hs : PlainIx c := by exact fun _ _ => rfl) : SE X Wx (.Subscript a c pos) (e2 (bIxO i) ma mc) :=
  have h1 : SE X Wx (.Subscript a c pos) (e2 (fun x y h => byK x h bDix i noOp x y h) ma mc) := se_or2 (se_dix hr ha hc hs) hi fun σ g => e2_or3 (d := bDix) (i := noOp) (o := i) (fun x y g => by
    rw [byK_ap, byK_ap, byK_ap]
    rcases byK_or x g (bDix x y g) (i x y g) (noOp x y g) with z | z | z
    · exact .inl z
    · exact .inr (.inl z)
    · exact .inr (.inr z)) σ g
  se_or2 h1 (se_ix ha hc hs) fun σ g => e2_or3 (d := fun x y h => byK x h bDix i noOp x y h) (i := noOp) (o := bIx) (fun x y g => by
    unfold bIxO
    rw [byK_ap, byK_ap, byK_ap, byK_ap, byK_ap, byK_ap]
    unfold byK
    cases x with
    | ref j =>
      dsimp only
      cases g[j]? with
      | none => exact .inr (.inl rfl)
      | some u => cases u <;> first | exact .inl rfl | exact .inr (.inl rfl)
    | _ => first | exact .inl rfl | exact .inr (.inl rfl)) σ g
/-! ### str of an own class -/
/-- the def at g, called two deeper -/
structure CalM2 (X : Cx) (Wx : WX) (f : Addr) (np : Nat) (m : List W → MH → R W) : Prop where
  in2 : ∀ {pins : List (Addr × Obj)} {σ : L2.St} {b : Bs} {h : MH} {s : Shared} {Q : VK} {us : List Value} {vs : List V} {ws : List W},
    Inv X pins σ b.H s → Vals vs us → Sim X.K b h → Rls X.K b ws vs → ws.length = np → Post X.K (Rl X.K) (fun c d H' => Wx c d σ H') b Q (m ws h) → wpAny (model X.prog X.w) X.A.in1.in1 (call (.ref f) us) (EP X pins σ Q) X.xe s
theorem calM2_fn {k : Nat} {fd : FuncData} {ps : List Str} {m : FM} {np : Nat} {g : List Value → List Value → List Value} {gV : List V → List V → List V} {gW : List W → List W → List W} (F : FnG X.prog X.w X.K X.mg X.base k f fd ps m) (hr : Room (k + 2) X.A) (hgd : X.A.guards = some []) (tk : Takes X Wx) (hb : KbG X.K fd ps [] np g gV gW) : CalM2 X Wx f np (fun ws => m (gW ws [])) := by
  have core : ∀ (A : Around) (hr : Room k A) (hgd : A.guards = some []) {pins : List (Addr × Obj)} {σ : L2.St} {b : Bs} {h : MH} {s : Shared} {Q : VK} {us : List Value} {vs : List V} {ws : List W} (e0 : Env0 X.prog X.w X.K X.mg X.base A X.stack s b.H),
      Inv X pins σ b.H s → Vals vs us → Sim X.K b h → Rls X.K b ws vs → ws.length = np → Post X.K (Rl X.K) (fun c d H' => Wx c d σ H') b Q (m (gW ws []) h) → wpAny (model X.prog X.w) A (call (.ref f) us) (EP X pins σ Q) X.xe s := by
    intro A hr hgd pins σ b h s Q us vs ws e0 I rv S rw hl q
    have r2 := hb.rel rv (zs := []) (ws := []) .nil
    have w2 := hb.relW rw (ws := []) (zs := []) .nil
    have hz : (g us []).length = ps.length := by
      rw [← r2.length, ← w2.length]
      refine Classical.byContradiction fun z => ?_
      rw [F.len _ _ z] at q
      exact q.elim
    refine callAny_of (codeAny_mono (F.run A X.stack s b h ⟨us, []⟩ _ _ _ Q (fun c d H' => Wx c d σ H') hr hgd e0 (hb.to s us [] I.kIn (by rw [← rv.length, ← rw.length]; exact hl) rfl hz) r2 S w2 q) fun r s' hq => ?_)
    cases r with
    | error e => exact tk e s' (XE.of_call I (fun _ _ _ z => z) hq)
    | ok fl => cases fl with
      | ret u => exact I.after hq
      | next => exact hq
      | brk => exact hq
      | cont => exact hq
  exact ⟨fun I rv S rw hl q => core X.A.in1.in1 hr.in1.in1 hgd I.env0.in1.in1 I rv S rw hl q⟩
theorem cM2_fn {k : Nat} {fd : FuncData} {ps : List Str} {m : FM} {m1 : FM} {np : Nat} {g : List Value → List Value → List Value} {gV : List V → List V → List V} {gW : List W → List W → List W} (F : FnG X.prog X.w X.K X.mg X.base k f fd ps m) (hr : Room (k + 2) X.A) (hgd : X.A.guards = some []) (tk : Takes X Wx) (hb : KbG X.K fd ps [] np g gV gW) (e : m1 = fun ws => m (gW ws []) := by rfl) : CalM2 X Wx f np m1 := e ▸ calM2_fn F hr hgd tk hb
def bStrI (C : Str) (m : List W → MH → R W) (ws : List W) (h : MH) : R W := match ws with
  | [x] => match insW h x with
    | some (C', _) => if C' = C then (m [x] h).bind fun r h1 => match r with
      | .str z => .ok (.str z) h1
      | _ => .stuck else .stuck
    | none => .stuck
  | _ => .stuck
theorem cs_strI {k : Nat} (hr : Room (k + 2) X.A) (cm : CalM2 X Wx f 1 m) (hs : PySem.W.findIn X.K (.ref (He.ga X.K C)) "__str__" = some (some (.ref f))) (hf : PySem.W.isFn X.K (.ref f) = true) : CallS X Wx (.type "str") (bStrI C m) := ⟨fun pins s σ b h ws vs us Q I S r rv q => by
  unfold bStrI at q
  split at q
  · rename_i x
    obtain ⟨y, rfl, r1⟩ := rls1 r
    obtain ⟨u, rfl, ru⟩ := rv.one
    split at q
    · rename_i C' fs ei
      by_cases hC : C' = C
      case neg => rw [if_neg hC] at q; exact q.elim
      rw [if_pos hC] at q
      subst hC
      obtain ⟨ad, dx, ps, rfl, h3, _⟩ := S.insW r1 ei
      obtain ⟨mA, O, _⟩ := ins_get I.hok h3
      obtain ⟨od, J, _⟩ := O.look
      cases ru
      refine PySem.W.kso_call hr.in1.in1.units0 I.kIn J hs hf ?_
      refine wpAny_mono (cm.in2 (us := [.ref ad]) (vs := [.ref ad]) I (.cons rfl .nil) S (.cons r1 .nil) rfl (Post.bind (rel := Rl X.K) q)) (fun w s' hq => ?_) fun _ _ z => z
      obtain ⟨z, H', I', rz, c1, wz, h1, eH, E1, S1, rw, q'⟩ := hq
      subst eH
      cases rw with
      | str k =>
        obtain ⟨t, rfl⟩ := rz
        exact ⟨.str k, _, I', ⟨t, rfl⟩, q'.here S1 (.str _)⟩
      | _ => exact q'.elim
    · exact q.elim
  · exact q.elim⟩
/-! ### a list taken apart -/
def gUn (n : Nat) (k : GMs) : GM := fun w σ h => match lstW h w with
  | some ws => if ws.length = n then k ws σ h else none
  | none => gTp n k w σ h
theorem sg_unp {es : List Expr} {vs : List Nat} {k : GMs} {n k0 : Nat} {pos : Pos} (hc : X.calm = true) (hk : SGs X es vs k) (hn : (assignEach es X.env).length = n := by rfl) (hst : (assignEach es X.env).findIdx? (·.1) = none := by rfl) : SG X (.Tuple es k0 pos) vs (gUn n k) := by
  refine ⟨⟨fun pins s σ H v u Q I r ⟨b, h, σm, w, e, S, l, rw, q⟩ => ?_⟩⟩
  subst e
  have q0 := q
  unfold gUn at q
  cases e : lstW h w with
  | none =>
    rw [e] at q
    exact (sg_tup hc hk hn hst).pg.run pins s σ b.H v u Q I r ⟨b, h, σm, _, rfl, S, l, rw, q⟩
  | some ws =>
    rw [e] at q
    dsimp only at q
    by_cases hz : ws.length = n
    · rw [if_pos hz] at q
      obtain ⟨a, us, rfl, hs, rr⟩ := S.listW rw e
      exact (pg_unl hc hk.pgs hn hst).run pins s σ b.H _ u Q I r ⟨a, us, rfl, hs, by rw [← rr.length]; exact hz, b, h, σm, ws, rfl, S, l, rr, q⟩
    · rw [if_neg hz] at q; exact q.elim
/-! ### f-strings -/
def eFmt (m : EM) : EM := fun σ h => (m σ h).bind fun w h1 => match w with
  | .str y => if y.length ≤ sizeLine then .ok (.str y) h1 else .stuck
  | .int i => if i.natAbs.log2 < 1920 then .ok (.str (toString i)) h1 else .stuck
  | _ => .stuck
theorem se_fmt {e : Expr} {me : EM} {pos : Pos} (he : SE X Wx e me) : SE X Wx (.FormattedValue e (-1) none pos) (eFmt me) := by
  refine ⟨pe_imp (pe_fmt he.pe) fun σ H Q ⟨b, h, σm, e, S, l, q⟩ => ?_⟩
  refine ⟨b, h, σm, e, S, l, (Post.bind (rel := Rl X.K) q).mono fun v H1 ⟨c, w, g, e, x, s, r, p⟩ => ?_⟩
  subst e
  cases r with
  | str z =>
    dsimp only at p
    split at p
    · rename_i hz; exact .inl ⟨z, rfl, hz, p.here s (.str _)⟩
    · exact p.elim
  | int i =>
    dsimp only at p
    split at p
    · rename_i hz; exact .inr ⟨i, rfl, hz, p.here s (.str _)⟩
    · exact p.elim
  | _ => exact p.elim
inductive SJ (X : Cx) (Wx : WX) : List Expr → List EM → Prop where
  | nil : SJ X Wx [] []
  | cons {e : Expr} {m : EM} {es : List Expr} {ms : List EM} (h : SE X Wx e m) (r : SJ X Wx es ms) : SJ X Wx (e :: es) (m :: ms)
def jsM : List EM → Str → EM
  | [], acc, _, h => .ok (.str acc) h
  | m :: ms, acc, σ, h => (m σ h).bind fun w h1 => match w with
    | .str y => if (acc ++ y).length ≤ sizeLine then jsM ms (acc ++ y) σ h1 else .stuck
    | _ => .stuck
def eJs (ms : List EM) : EM := jsM ms Str.empty
theorem sj_pj {es : List Expr} {ms : List EM} (h : SJ X Wx es ms) : PJ X es (ms.map fun m => tSim X.K Wx m) := by
  induction h with
  | nil => exact .nil
  | cons h r ih => exact .cons h.pe ih
theorem js_read {σ : L2.St} {σm : MS} : ∀ (ms : List EM) (acc : Str) (b : Bs) (h : MH) (Q : Str → Hp → Prop), Sim X.K b h → SlM X.K b σm σ → Post X.K (Rl X.K) (fun c d H' => Wx c d σ H') b (fun v H' => ∃ z, v = .str z ∧ Q z H') (jsM ms acc σm h) → tJs (ms.map fun m => tSim X.K Wx m) acc σ b.H Q
  | [], acc, b, h, Q, S, l, q => by
    obtain ⟨z, e, q⟩ := q b (.str acc) .refl S (.str _)
    cases e
    exact q
  | m :: ms, acc, b, h, Q, S, l, q => by
    refine ⟨b, h, σm, rfl, S, l, (Post.bind (rel := Rl X.K) q).mono fun v H1 ⟨c, w, g, e, x, s, r, p⟩ => ?_⟩
    subst e
    cases r with
    | str z =>
      dsimp only at p
      split at p
      · rename_i hz; exact ⟨z, rfl, hz, js_read ms (acc ++ z) c g Q s (l.ext x) p⟩
      · exact p.elim
    | _ => exact p.elim
theorem jsM_str {K : PySem.W.Frag} {We : Value → Option Addr → Hp → Prop} {b : Bs} {Q : VK} {σm : MS} : ∀ (ms : List EM) (acc : Str) (h : MH), Post K (Rl K) We b Q (jsM ms acc σm h) → Post K (Rl K) We b (fun v H' => ∃ z, v = .str z ∧ Q (.str z) H') (jsM ms acc σm h)
  | [], acc, h, q => fun c v x s r => by
    cases r
    exact ⟨acc, rfl, q c _ x s (.str _)⟩
  | m :: ms, acc, h, q => by
    unfold jsM at q ⊢
    cases em : m σm h with
    | stuck => rw [em] at q; exact q
    | exc x g => rw [em] at q; exact q
    | ok w g =>
      rw [em] at q
      simp only [R.bind_ok] at q ⊢
      split at q
      · split at q
        · rename_i hz
          rw [if_pos hz]
          exact jsM_str ms _ g q
        · exact q.elim
      · exact q.elim
theorem se_js {v1 v2 : Expr} {rest : List Expr} {ms : List EM} {pos : Pos} (h : SJ X Wx (v1 :: v2 :: rest) ms) : SE X Wx (.JoinedStr (v1 :: v2 :: rest) pos) (eJs ms) :=
  ⟨pe_imp (pe_joined (sj_pj h)) fun σ H Q ⟨b, h, σm, e, S, l, q⟩ => by
    subst e
    exact js_read ms _ b h _ S l ((jsM_str ms _ h q).mono fun v H' ⟨z, e, z2⟩ => ⟨z, e, z2⟩)⟩
end
/-- what the text says of an own operator -/
def opnB (K : PySem.W.Frag) (C : Str) (op : Operator) (m : Str) : Bool := PySem.W.selfFirst K (He.ga K C) && (He.eqO (PySem.W.findIn K (.ref (He.ga K C)) (PySem.dunder op.info.2)) (some (some (.ref (adM C m K)))) && PySem.W.isFn K (.ref (adM C m K)))
theorem opnB_ok {K : PySem.W.Frag} {C : Str} {op : Operator} {m : Str} (h : opnB K C op m = true) :
    PySem.W.selfFirst K (He.ga K C) = true ∧ PySem.W.findIn K (.ref (He.ga K C)) (PySem.dunder op.info.2) = some (some (.ref (adM C m K))) ∧ PySem.W.isFn K (.ref (adM C m K)) = true := by
  obtain ⟨h1, h2⟩ := andB h
  obtain ⟨h2, h3⟩ := andB h2
  exact ⟨h1, He.eqO_ok h2, h3⟩
theorem hkNx_nil : HkNx [] := fun q hq => by cases hq
theorem hkNx_none {l : List HkM} (h : HkNx l) : HkNx (none :: l) := fun q hq r e => by
  cases hq with
  | head => cases e
  | tail _ hq => exact h q hq r e
theorem hkNx_some {D : Kd} {io : Option Nat} {hk : Xn → SM} {l : List HkM} (hn : ∀ x σ h y σ2 h2, hk x σ h ≠ .exc y σ2 h2) (h : HkNx l) : HkNx (some (D, io, hk) :: l) := fun q hq r e => by
  cases hq with
  | head => cases e; exact hn
  | tail _ hq => exact h q hq r e
end PM
/-! Sm44: a name's new value, frozen; a name set by a dict comprehension. -/
noncomputable section
namespace L2
open PySem PySem.Spec PyProof.Rows
section
variable {X : Cx}
theorem swd_true {kx vx : Expr} {gs : List Comprehension} {scope : Scope} {pos py : Pos} {y : Str} {l : Nat} {env : Env} (hk : env.scope.kind = .function) (hy : env.scope.names.lookup y = some .local) (hl : (py.line == pos.line) = true)
    (ha : (scope.names.any fun (n, k) => n == y && (k == .local || k == .cell)) = false) : swapsWith (.DictComp kx vx gs scope pos) (some (.Name y py)) l env = pure true := by
  have ky : env.kindOf y = some .local := hy
  have hb : env.blockKind = .function := by unfold Env.blockKind; rw [hk]; rfl
  unfold swapsWith
  simp only [hb, ky, ha, Expr.pos, hl]
  rfl
theorem ps_setDc {i : Nat} {y : Str} {py : Pos} {kx vx tg iter : Expr} {ifs : List Expr} {scope : Scope} {own : List (Str × Nat)} {pos spos : Pos} {wi : TI} {g : TG} {tt : TT} {tk tv : TE} (hc : X.calm = true) (hN : X.N.Nodup) (hy : X.N[i]? = some y) (hyl : X.env.scope.names.lookup y = some .local)
    (hsw : swapsWith (.DictComp kx vx [⟨tg, iter, ifs, 0⟩] scope pos) (some (.Name y py)) spos.line X.env = pure true) (hi : PI X tg iter wi) (ok : BlkOk X.N X.env.scope scope own)
    (hg : ∀ (s : Shared) (H : Hp) (C : Addr) (cl : List (Str × Addr)) (fp : List Addr), PG (X.blk s H scope (compEnvC scope cl C X.env) fp) tg g) (ht : ∀ (s : Shared) (H : Hp) (C : Addr) (cl : List (Str × Addr)) (fp : List Addr), PTs (X.blk s H scope (compEnvC scope cl C X.env) fp) ifs tt)
    (hk : ∀ (s : Shared) (H : Hp) (C : Addr) (cl : List (Str × Addr)) (fp : List Addr), PE (X.blk s H scope (compEnvC scope cl C X.env) fp) kx tk)
    (he : ∀ (s : Shared) (H : Hp) (C : Addr) (cl : List (Str × Addr)) (fp : List Addr), PE (X.blk s H scope (compEnvC scope cl C X.env) fp) vx tv) (hs : ∀ x, foldedSetIterable iter X.env x = pure x := by intro _; rfl) :
    PS X (.Assign [.Name y py] (.DictComp kx vx [⟨tg, iter, ifs, 0⟩] scope pos) spos) (tAsg (tDc wi g tt tk tv (own.map (·.2))) (gName i)) := by
  refine ⟨fun pins s σ H D I h => ?_⟩
  rw [exec_Assign_Name_used _ _ _ _ hsw]
  refine wpAny_bind (wpAny_standAt (wpAny_bind ?_))
  show wpAny _ X.A (do let _ ← comprehension (.DictComp kx vx [⟨tg, iter, ifs, 0⟩] scope pos) scope X.env (firstIterPos [⟨tg, iter, ifs, 0⟩] pos) newDict false (eval iter X.env) (some (assign (.Name y py) X.env))) _ _ s
  have h : tDc wi g tt tk tv (own.map (·.2)) σ H (fun x H1 => gName i x σ H1 D.nx) := h
  refine wpAny_bind (thn (dc_core (Qf := fun _ s' => SP X pins D .next s') hc hN I hi ok hg ht hk he hs h fun L C s' m H' I' q hn f => ?_) fun _ s' hq => wpAny_pure (wpAny_pure hq))
  show wpAny _ _ (assign (.Name y py) X.env (.ref L)) _ _ _
  refine wpAny_assign_Name (store_ok2 (v := V.ref L) I' hN hy (.inl hyl) rfl (fun s2 I2 ⟨a, sb, ha⟩ => ?_) (.inr hyl))
  obtain ⟨f0, f1, f2, f3, f4, f5⟩ := f
  have haC : C ≠ a := by
    rcases ha with z | z
    · rw [z]; exact f1
    · exact fun e => f4 y a z e.symm
  refine ⟨m, hn.sameBut sb haC, fun h3 sb3 => ?_⟩
  exact ⟨_, H', I2.turned (t' := s2.toks) (fun b o hb e => (sb3.2 b hb).trans e) f0 f1 f3 f4 f5, q⟩
end
end L2
namespace PM
open PySem PySem.Spec L2
open PyProof.Rows hiding St
section
variable {X : Cx} {Wx : WX} {st : Stmt} {i : Nat} {m : EM} {tg iter : Expr} {pos : Pos}
/-- a slot's values stand below what is new -/
theorem SlM.cls {K : PySem.W.Frag} {b : Bs} {σm : MS} {σ : L2.St} (l : SlM K b σm σ) {j : Nat} {w : W} (e : σm[j]? = some (some w)) : Cls b.n w := let ⟨_, _, r⟩ := l.at_ j w e; r.clo
theorem ss_fz (S : SS X Wx st (sSet i m)) : SS X Wx st (sSet i (eFz m)) := ⟨ps_imp S.ps fun D σ H ⟨b, h, σm, e, S, l, q⟩ => ⟨b, h, σm, e, S, l, by
  have q : PostS X.K Wx b D ((fin h (m σm h)).st σm fun w h1 => .nx (σm.set i (some w)) h1) := q
  show PostS X.K Wx b D ((m σm h).st σm fun w h1 => .nx (σm.set i (some w)) h1)
  have low : ∀ {h' : MH} {c : Bs} {σ2 : L2.St} {σ3 : MS}, Sim X.K c h' → (∀ j w, σ3[j]? = some (some w) → Cls h.length w) → SlM X.K c σ3 σ2 → SlM X.K (c.fz h' h.length h'.length) σ3 σ2 := fun s hc l2 =>
    ⟨l2.len, fun j w e => let ⟨v, ev, r⟩ := l2.at_ j w e; ⟨v, ev, r.cu (Bs.fz_cu s) (hc j w e)⟩⟩
  have cl0 : ∀ j w, σm[j]? = some (some w) → Cls h.length w := fun j w e => by rw [← S.len]; exact l.cls e
  cases em : m σm h with
  | stuck => rw [em] at q; exact q
  | ok w h' =>
    rw [em] at q
    unfold fin at q
    dsimp only at q
    split at q
    · rename_i O
      split at q
      · rename_i w' e
        intro c σ2 x2 s2 l2
        obtain ⟨x3, s3⟩ := fz_sim (ex := h'.length) S x2 s2 O
        refine q (c.fz h' h.length h'.length) σ2 x3 s3 ⟨by rw [List.length_set]; have := l2.len; rwa [List.length_set] at this, fun j u ej => ?_⟩
        by_cases hj : i = j
        · subst hj
          by_cases hi : i < σm.length
          · rw [List.getElem?_set_self hi] at ej
            cases ej
            obtain ⟨v, ev, r⟩ := l2.at_ i w (List.getElem?_set_self hi)
            exact ⟨v, ev, fz_ok s2 20 w v w' r e⟩
          · rw [List.getElem?_eq_none (by simpa using hi)] at ej; cases ej
        · rw [List.getElem?_set_ne hj] at ej
          obtain ⟨v, ev, r⟩ := l2.at_ j u (by rw [List.getElem?_set_ne hj]; exact ej)
          exact ⟨v, ev, r.cu (Bs.fz_cu s2) (cl0 j u ej)⟩
      · exact q.elim
    · exact q.elim
  | exc x h' =>
    rw [em] at q
    have q : PostS X.K Wx b D ((finX h x h').st σm fun w h1 => .nx (σm.set i (some w)) h1) := q
    intro c σ2 d x2 s2 l2 r
    have key : Post X.K (Rl X.K) (fun c' d H' => Wx c' d σ2 H') c (fun _ _ => False) (.exc x h') := by
      have base : Post X.K (Rl X.K) (fun c' d H' => SlM X.K c σm σ2 → True) c (fun _ _ => False) (.exc x h') := fun _ _ _ _ _ _ => trivial
      intro c3 d3 x3 s3 r3
      unfold finX at q
      split at q
      · rename_i O
        split at q
        · rename_i fs e
          have l3 : SlM X.K c3 σm σ2 := l2.ext x3
          obtain ⟨x4, s4⟩ := fz_sim (ex := h'.length) S (x2.trans x3) s3 O
          refine q (c3.fz h' h.length h'.length) σ2 d3 x4 s4 (low s3 cl0 l3) ?_
          have e : mapV (fzW h' h.length h'.length 20) x.fs = some fs := e
          cases hx : x.fs with
          | nil =>
            rw [hx] at e
            unfold mapV mapO at e
            cases e
            unfold XfR at r3 ⊢
            rw [hx] at r3
            exact r3
          | cons p l =>
            have r3 : ∃ a ps, d3 = some a ∧ c3.H a = some (.xd ps) ∧ Rlk X.K c3 x.fs ps := by
              unfold XfR at r3
              rw [hx] at r3
              rw [hx]
              exact r3
            obtain ⟨a, ps, ed, h1, rk⟩ := r3
            have rk' := rlk_mapV (fz_ok (n := h.length) (ex := h'.length) s3 20) rk e
            have : ∃ a ps, d3 = some a ∧ (c3.fz h' h.length h'.length).H a = some (.xd ps) ∧ Rlk X.K (c3.fz h' h.length h'.length) fs ps := ⟨a, ps, ed, h1, rk'⟩
            unfold XfR
            cases fs with
            | nil =>
              exfalso
              have l1 := rk.len
              have l2 := rk'.len
              rw [hx] at l1
              rw [l1] at l2
              simp at l2
            | cons _ _ => exact this
        · exact q.elim
      · exact q.elim
    exact key c d .refl s2 r⟩⟩
theorem ss_setDc {y : Str} {py : Pos} {ifs : List Expr} {scope : Scope} {own : List (Str × Nat)} {it : MS → MH → R MI} {g : GM} {t : TM} {mk m : EM} {kx vx : Expr} {spos : Pos} (hc : X.calm = true) (hN : X.N.Nodup) (hy : X.N[i]? = some y) (hyl : X.env.scope.names.lookup y = some .local)
    (hsw : swapsWith (.DictComp kx vx [⟨tg, iter, ifs, 0⟩] scope pos) (some (.Name y py)) spos.line X.env = pure true) (hi : SI X Wx tg iter it) (Lk : LcP X tg kx ifs scope own g t mk) (L : LcP X tg vx ifs scope own g t m)
    (hs : ∀ x, foldedSetIterable iter X.env x = pure x := by intro _; rfl) : SS X Wx (.Assign [.Name y py] (.DictComp kx vx [⟨tg, iter, ifs, 0⟩] scope pos) spos) (sSet i (eDc it (own.map (·.2)) g t mk m)) := by
  refine ⟨ps_imp (ps_setDc (g := gSim X.K (own.map (·.2)) g) (tt := tSimT X.K W0 t) (tk := tSim X.K W0 mk) (tv := tSim X.K W0 m) hc hN hy hyl hsw hi.pi L.ok (fun s H C cl fp => (L.g s H C cl fp).pg) (fun s H C cl fp => (L.t s H C cl fp).pts) (fun s H C cl fp => (Lk.e s H C cl fp).pe) (fun s H C cl fp => (L.e s H C cl fp).pe) hs) fun D σ H ⟨b, h, σm, e, S, l, q⟩ => ?_⟩
  refine dc_read ⟨b, h, σm, e, S, l, ?_⟩
  refine (PostS.st (rel := Rl X.K) l q).mono fun v H1 ⟨c, w, g, e, x, s, r, p⟩ => ?_
  subst e
  exact p c _ .refl s ((l.ext x).set i r)
end
end PM
/-! Sm45: reckoning with frozen things. -/
noncomputable section
namespace PM
open PySem L2
section
variable {σ : MS} {h g l : MH}
@[simp] theorem byK_vl {α : Type} {d a o : α} (z : List W) : byK (.vl z) h d a o = o := rfl
@[simp] theorem byK_vd {α : Type} {d a o : α} (z : List (Key × W)) : byK (.vd z) h d a o = d := rfl
@[simp] theorem byK_vi {α : Type} {d a o : α} (C : Str) (z : List (Str × W)) : byK (.vi C z) h d a o = a := rfl
@[simp] theorem ev_fz (m : EM) : eFz m σ h = fin h (m σ h) := rfl
@[simp] theorem ev_ow (m : EM) : eOw m σ h = own h (m σ h) := rfl
@[simp] theorem ev_lkE (ch : Ch) (m : EM) : eLk ch m σ h = match ch σ h with
  | some i => match h[i]? with
    | some (.dct kvs) => unlE i kvs (m σ (h.set i (.lck kvs)))
    | _ => m σ h
  | none => m σ h := rfl
@[simp] theorem ev_lkS (ch : Ch) (m : SM) : sLk ch m σ h = match ch σ h with
  | some i => match h[i]? with
    | some (.dct kvs) => unlS i kvs (m σ (h.set i (.lck kvs)))
    | _ => m σ h
  | none => m σ h := rfl
@[simp] theorem ev_ch (m : EM) : chE m σ h = match m σ h with
  | .ok (.ref i) _ => some i
  | _ => none := rfl
@[simp] theorem lck_vd (f : List (Key × W) → MI) (kvs : List (Key × W)) : onLck f (.vd kvs) h = .ok (f kvs) h := rfl
@[simp] theorem iter_vl (xs : List W) : iterW (.vl xs) h = .ok (itT xs) h := rfl
@[simp] theorem iter_tup (xs : List W) : iterW (.tup xs) h = .ok (itT xs) h := rfl
@[simp] theorem iter_str (x : Str) : iterW (.str x) h = .ok (itS x) h := rfl
@[simp] theorem fuel_I (kvs : List (Key × W)) : (itI kvs).fuel = kvs.length := rfl
@[simp] theorem fuel_K (kvs : List (Key × W)) : (itK kvs).fuel = kvs.length := rfl
@[simp] theorem fuel_V (kvs : List (Key × W)) : (itV kvs).fuel = kvs.length := rfl
theorem nx_I (kvs : List (Key × W)) (i : Nat) : (itI kvs).nx i h = some (kvs[i]?.map fun kv => .tup [keyW kv.1, kv.2]) := rfl
theorem nx_K (kvs : List (Key × W)) (i : Nat) : (itK kvs).nx i h = some (kvs[i]?.map fun kv => keyW kv.1) := rfl
@[simp] theorem len_vl (xs : List W) : bLen [.vl xs] h = .ok (.int xs.length) h := rfl
@[simp] theorem len_vd (xs : List (Key × W)) : bLen [.vd xs] h = .ok (.int xs.length) h := rfl
@[simp] theorem len_tup (xs : List W) : bLen [.tup xs] h = .ok (.int xs.length) h := rfl
@[simp] theorem bty_vl (xs : List W) : bty (.vl xs) h = some "list" := rfl
@[simp] theorem bty_vd (xs : List (Key × W)) : bty (.vd xs) h = some "dict" := rfl
@[simp] theorem bty_str (x : Str) : bty (.str x) h = some "str" := rfl
@[simp] theorem dict_vd (kvs : List (Key × W)) : bDict [.vd kvs] h = .ok (.ref h.length) (h ++ [.dct kvs]) := rfl
@[simp] theorem list_vl (xs : List W) : bList [.vl xs] h = .ok (.ref h.length) (h ++ [.lst xs]) := rfl
@[simp] theorem list_tup (xs : List W) : bList [.tup xs] h = .ok (.ref h.length) (h ++ [.lst xs]) := rfl
@[simp] theorem list_vd (kvs : List (Key × W)) : bList [.vd kvs] h = .ok (.ref h.length) (h ++ [.lst (kvs.map fun kv => keyW kv.1)]) := rfl
@[simp] theorem is_nn (h : MH) : bIs .non .non h = .ok (.bl true) h := rfl
@[simp] theorem isnot_nn (h : MH) : bNot .non .non h = .ok (.bl false) h := rfl
@[simp] theorem is_in (i : Int) (h : MH) : bIs (.int i) .non h = .ok (.bl false) h := rfl
@[simp] theorem isnot_in (i : Int) (h : MH) : bNot (.int i) .non h = .ok (.bl true) h := rfl
@[simp] theorem is_vln (i : List W) (h : MH) : bIs (.vl i) .non h = .ok (.bl false) h := rfl
@[simp] theorem isnot_vln (i : List W) (h : MH) : bNot (.vl i) .non h = .ok (.bl true) h := rfl
@[simp] theorem is_vdn (i : List (Key × W)) (h : MH) : bIs (.vd i) .non h = .ok (.bl false) h := rfl
@[simp] theorem isnot_vdn (i : List (Key × W)) (h : MH) : bNot (.vd i) .non h = .ok (.bl true) h := rfl
@[simp] theorem isnot_refn (i : Nat) (h : MH) : bNot (.ref i) .non h = .ok (.bl true) h := rfl
@[simp] theorem is_refn (i : Nat) (h : MH) : bIs (.ref i) .non h = .ok (.bl false) h := rfl
theorem ix_vl {xs : List W} {k : Int} {w : W} (a : atI xs k = some w) : bIx (.vl xs) (.int k) h = .ok w h := by
  simp [bIx, seqAt, a]
theorem ix_tup {xs : List W} {k : Int} {w : W} (a : atI xs k = some w) : bIx (.tup xs) (.int k) h = .ok w h := by
  simp [bIx, seqAt, a]
theorem ixX_vl {xs : List W} {k : Int} {w : W} (a : atI xs k = some w) : bIxX (.vl xs) (.int k) h = .ok w h := ix_vl a
theorem ixO_vl {f : W → W → MH → R W} {xs : List W} {k : Int} {w : W} (a : atI xs k = some w) : bIxO f (.vl xs) (.int k) h = .ok w h := ix_vl a
theorem ixX_vd {l : DI} {k v : Int} (a : valM l k = some v) : bIxX (.vd (D l)) (.int k) h = .ok (.int v) h := by
  rw [show bIxX (.vd (D l)) (.int k) h = bDix (.vd (D l)) (.int k) h from rfl]
  simp [bDix, keyOf, D_val, a]
theorem ixO_vd {f : W → W → MH → R W} {l : DI} {k v : Int} (a : valM l k = some v) : bIxO f (.vd (D l)) (.int k) h = .ok (.int v) h := ixX_vd a
@[simp] theorem inX_vd {l : DI} {k : Int} (neg : Bool) (f : W → W → MH → R W) : bInX neg f (.int k) (.vd (D l)) h = .ok (.bl (if neg then !(valM l k).isSome else (valM l k).isSome)) h := by
  rw [show bInX neg f (.int k) (.vd (D l)) h = bDin neg (.int k) (.vd (D l)) h from rfl]
  simp only [bDin, keyOf, dctW_vd, any_val, D_val]
  cases valM l k <;> cases neg <;> rfl
@[simp] theorem dget3_vd {l : DI} {k : Int} (z : W) : bDget [.vd (D l), .int k, z] h = .ok (((valM l k).map W.int).getD z) h := by
  simp [bDget, keyOf, D_val]
@[simp] theorem dget2_vd {l : DI} {k : Int} : bDget [.vd (D l), .int k] h = .ok (((valM l k).map W.int).getD .non) h := by
  simp [bDget, keyOf, D_val]
@[simp] theorem srt_vd (l : DI) : bSrt [.vd (D l)] h = .ok (.ref h.length) (h ++ [.lst ((srtI (l.map (·.1))).map W.int)]) := by
  simp [bSrt, D_keys]
theorem srt_vl (l : List Int) : bSrt [.vl (l.map W.int)] h = .ok (.ref h.length) (h ++ [.lst ((srtI l).map W.int)]) := by
  simp [bSrt, intsOf_map]
theorem all_vl {f : List Bool → Bool} {xs : List W} {bs : List Bool} (e : blsOf xs = some bs) : bAll f [.vl xs] h = .ok (.bl (f bs)) h := by
  simp [bAll, e]
theorem D_cls (n : Nat) (l : DI) : ∀ x ∈ D l, Cls n x.2 := fun x hx => by
  obtain ⟨p, _, rfl⟩ := List.mem_map.mp hx
  exact .int _
@[simp] theorem D_clsE (n : Nat) (l : DI) : (∀ a b, (a, b) ∈ D l → Cls n b) ↔ True := ⟨fun _ => trivial, fun _ a b hx => D_cls n l (a, b) hx⟩
@[simp] theorem ints_cls (n : Nat) (l : List Int) : (∀ x ∈ l.map W.int, Cls n x) ↔ True := ⟨fun _ => trivial, fun _ x hx => by obtain ⟨p, _, rfl⟩ := List.mem_map.mp hx; exact .int _⟩
/-! ### the frozen result of a call -/
theorem fz_ok1 {m : FM} {ws : List W} {w : W} (e : m ws h = .ok w (h ++ l)) (c : Cls h.length w) : fz m ws h = .ok w h := by
  show fin h (m ws h) = _
  rw [e]; exact fin_app c
theorem fz_ok0 {m : FM} {ws : List W} {w : W} (e : m ws h = .ok w h) (c : Cls h.length w) : fz m ws h = .ok w h := by
  show fin h (m ws h) = _
  rw [e]; exact fin_self c
theorem fz_dct {m : FM} {ws : List W} {kvs : List (Key × W)} (e : m ws h = .ok (.ref h.length) (h ++ .dct kvs :: l)) (c : ∀ x ∈ kvs, Cls h.length x.2) : fz m ws h = .ok (.vd kvs) h := by
  show fin h (m ws h) = _
  rw [e]; exact fin_d0 c
theorem fz_lst {m : FM} {ws : List W} {xs : List W} (e : m ws h = .ok (.ref h.length) (h ++ .lst xs :: l)) (c : ∀ x ∈ xs, Cls h.length x) : fz m ws h = .ok (.vl xs) h := by
  show fin h (m ws h) = _
  rw [e]; exact fin_l0 c
theorem fz_exc {m : FM} {ws : List W} {x : Xn} (e : m ws h = .exc x (h ++ l)) (c : ∀ p ∈ x.fs, Cls h.length p.2) : fz m ws h = .exc x h := by
  show fin h (m ws h) = _
  rw [e]; exact finX_app c
theorem fz_exc0 {m : FM} {ws : List W} {x : Xn} (e : m ws h = .exc x h) (c : ∀ p ∈ x.fs, Cls h.length p.2) : fz m ws h = .exc x h := by
  show fin h (m ws h) = _
  rw [e]; exact finX_self c
theorem fin_i {k : Nat} {C : Str} {fs : List (Str × W)} (s : Stp h g) (el : l[k]? = some (.ins C fs)) (hc : ∀ x ∈ fs, Cls h.length x.2) : fin h (.ok (.ref (h.length + k)) (g ++ l)) = .ok (.vi C fs) g := by
  refine fin_of s l _ _ ?_
  unfold fzW
  rw [if_neg (by simp), ]
  dsimp only
  have lt := (List.getElem?_eq_some_iff.mp el).1
  rw [if_neg (by rw [List.length_append, s.len]; omega), List.getElem?_append_right (by rw [s.len]; omega), s.len, Nat.add_sub_cancel_left, el]
  dsimp only
  rw [fzW_cls_d hc]
  rfl
@[simp] theorem fin_i0 {C : Str} {fs : List (Str × W)} (hc : ∀ x ∈ fs, Cls h.length x.2) : fin h (.ok (.ref h.length) (h ++ .ins C fs :: l)) = .ok (.vi C fs) h := fin_i (k := 0) .refl rfl hc
/-! ### what stands behind a heap -/
@[simp] theorem ins_appk (h l : MH) (k : Nat) : insAt (h ++ l) (h.length + k) = insAt l k := by unfold insAt; rw [get_app_k]
@[simp] theorem ins_app0 (h l : MH) : insAt (h ++ l) h.length = insAt l 0 := ins_appk h l 0
@[simp] theorem ins_consS (o : Ob) (l : MH) (k : Nat) : insAt (o :: l) (k + 1) = insAt l k := by unfold insAt; rw [List.getElem?_cons_succ]
@[simp] theorem dct_appk (h l : MH) (k : Nat) : dctAt (h ++ l) (h.length + k) = dctAt l k := by unfold dctAt; rw [get_app_k]
@[simp] theorem dct_app0 (h l : MH) : dctAt (h ++ l) h.length = dctAt l 0 := dct_appk h l 0
@[simp] theorem dct_consS (o : Ob) (l : MH) (k : Nat) : dctAt (o :: l) (k + 1) = dctAt l k := by unfold dctAt; rw [List.getElem?_cons_succ]
@[simp] theorem lst_appk (h l : MH) (k : Nat) : lstAt (h ++ l) (h.length + k) = lstAt l k := by unfold lstAt; rw [get_app_k]
@[simp] theorem lst_app0 (h l : MH) : lstAt (h ++ l) h.length = lstAt l 0 := lst_appk h l 0
@[simp] theorem lst_consS (o : Ob) (l : MH) (k : Nat) : lstAt (o :: l) (k + 1) = lstAt l k := by unfold lstAt; rw [List.getElem?_cons_succ]
@[simp] theorem mut_appk (h l : MH) (k : Nat) : mutAt (h ++ l) (h.length + k) = mutAt l k := by unfold mutAt; rw [get_app_k]
@[simp] theorem mut_app0 (h l : MH) : mutAt (h ++ l) h.length = mutAt l 0 := mut_appk h l 0
@[simp] theorem mut_consS (o : Ob) (l : MH) (k : Nat) : mutAt (o :: l) (k + 1) = mutAt l k := by unfold mutAt; rw [List.getElem?_cons_succ]
@[simp] theorem ins_c0 (C : Str) (fs : List (Str × W)) (l : MH) : insAt (.ins C fs :: l) 0 = some (C, fs) := rfl
@[simp] theorem dct_c0 (kvs : List (Key × W)) (l : MH) : dctAt (.dct kvs :: l) 0 = some kvs := rfl
@[simp] theorem lst_c0 (xs : List W) (l : MH) : lstAt (.lst xs :: l) 0 = some xs := rfl
@[simp] theorem mut_c0 (xs : List W) (l : MH) : mutAt (.lst xs :: l) 0 = some xs := rfl
@[simp] theorem dct_c0l (xs : List W) (l : MH) : dctAt (.lst xs :: l) 0 = none := rfl
@[simp] theorem lst_c0d (kvs : List (Key × W)) (l : MH) : lstAt (.dct kvs :: l) 0 = none := rfl
@[simp] theorem ins_c0l (xs : List W) (l : MH) : insAt (.lst xs :: l) 0 = none := rfl
@[simp] theorem ins_c0d (kvs : List (Key × W)) (l : MH) : insAt (.dct kvs :: l) 0 = none := rfl
section
variable {p0 : Ob} {w : W}
theorem fin_p1 (hc : Cls (h.length + 1) w) : fin (h ++ [p0]) (.ok w (h ++ (p0 :: l))) = .ok w (h ++ [p0]) := by
  have q := fin_app (h := h ++ [p0]) (l := l) (w := w) (by simpa using hc)
  simpa using q
@[simp] theorem fin_p1s (hc : Cls (h.length + 1) w) : fin (h ++ [p0]) (.ok w (h ++ [p0])) = .ok w (h ++ [p0]) := fin_p1 (l := []) hc
@[simp] theorem fin_pl1 {xs : List W} (hc : ∀ x ∈ xs, Cls (h.length + 1) x) : fin (h ++ [p0]) (.ok (.ref (h.length + 1)) (h ++ (p0 :: .lst xs :: l))) = .ok (.vl xs) (h ++ [p0]) := by
  have q := fin_l0 (h := h ++ [p0]) (l := l) (xs := xs) (by simpa using hc)
  simpa using q
@[simp] theorem fin_pd1 {kvs : List (Key × W)} (hc : ∀ x ∈ kvs, Cls (h.length + 1) x.2) : fin (h ++ [p0]) (.ok (.ref (h.length + 1)) (h ++ (p0 :: .dct kvs :: l))) = .ok (.vd kvs) (h ++ [p0]) := by
  have q := fin_d0 (h := h ++ [p0]) (l := l) (kvs := kvs) (by simpa using hc)
  simpa using q
@[simp] theorem fin_pi1 {C : Str} {fs : List (Str × W)} (hc : ∀ x ∈ fs, Cls (h.length + 1) x.2) : fin (h ++ [p0]) (.ok (.ref (h.length + 1)) (h ++ (p0 :: .ins C fs :: l))) = .ok (.vi C fs) (h ++ [p0]) := by
  have q := fin_i0 (h := h ++ [p0]) (l := l) (C := C) (fs := fs) (by simpa using hc)
  simpa using q
end
section
variable {p0 p1 : Ob} {w : W}
theorem fin_p2 (hc : Cls (h.length + 2) w) : fin (h ++ [p0, p1]) (.ok w (h ++ (p0 :: p1 :: l))) = .ok w (h ++ [p0, p1]) := by
  have q := fin_app (h := h ++ [p0, p1]) (l := l) (w := w) (by simpa using hc)
  simpa using q
@[simp] theorem fin_p2s (hc : Cls (h.length + 2) w) : fin (h ++ [p0, p1]) (.ok w (h ++ [p0, p1])) = .ok w (h ++ [p0, p1]) := fin_p2 (l := []) hc
@[simp] theorem fin_pl2 {xs : List W} (hc : ∀ x ∈ xs, Cls (h.length + 2) x) : fin (h ++ [p0, p1]) (.ok (.ref (h.length + 2)) (h ++ (p0 :: p1 :: .lst xs :: l))) = .ok (.vl xs) (h ++ [p0, p1]) := by
  have q := fin_l0 (h := h ++ [p0, p1]) (l := l) (xs := xs) (by simpa using hc)
  simpa using q
@[simp] theorem fin_pd2 {kvs : List (Key × W)} (hc : ∀ x ∈ kvs, Cls (h.length + 2) x.2) : fin (h ++ [p0, p1]) (.ok (.ref (h.length + 2)) (h ++ (p0 :: p1 :: .dct kvs :: l))) = .ok (.vd kvs) (h ++ [p0, p1]) := by
  have q := fin_d0 (h := h ++ [p0, p1]) (l := l) (kvs := kvs) (by simpa using hc)
  simpa using q
@[simp] theorem fin_pi2 {C : Str} {fs : List (Str × W)} (hc : ∀ x ∈ fs, Cls (h.length + 2) x.2) : fin (h ++ [p0, p1]) (.ok (.ref (h.length + 2)) (h ++ (p0 :: p1 :: .ins C fs :: l))) = .ok (.vi C fs) (h ++ [p0, p1]) := by
  have q := fin_i0 (h := h ++ [p0, p1]) (l := l) (C := C) (fs := fs) (by simpa using hc)
  simpa using q
end
section
variable {p0 p1 p2 : Ob} {w : W}
theorem fin_p3 (hc : Cls (h.length + 3) w) : fin (h ++ [p0, p1, p2]) (.ok w (h ++ (p0 :: p1 :: p2 :: l))) = .ok w (h ++ [p0, p1, p2]) := by
  have q := fin_app (h := h ++ [p0, p1, p2]) (l := l) (w := w) (by simpa using hc)
  simpa using q
@[simp] theorem fin_p3s (hc : Cls (h.length + 3) w) : fin (h ++ [p0, p1, p2]) (.ok w (h ++ [p0, p1, p2])) = .ok w (h ++ [p0, p1, p2]) := fin_p3 (l := []) hc
@[simp] theorem fin_pl3 {xs : List W} (hc : ∀ x ∈ xs, Cls (h.length + 3) x) : fin (h ++ [p0, p1, p2]) (.ok (.ref (h.length + 3)) (h ++ (p0 :: p1 :: p2 :: .lst xs :: l))) = .ok (.vl xs) (h ++ [p0, p1, p2]) := by
  have q := fin_l0 (h := h ++ [p0, p1, p2]) (l := l) (xs := xs) (by simpa using hc)
  simpa using q
@[simp] theorem fin_pd3 {kvs : List (Key × W)} (hc : ∀ x ∈ kvs, Cls (h.length + 3) x.2) : fin (h ++ [p0, p1, p2]) (.ok (.ref (h.length + 3)) (h ++ (p0 :: p1 :: p2 :: .dct kvs :: l))) = .ok (.vd kvs) (h ++ [p0, p1, p2]) := by
  have q := fin_d0 (h := h ++ [p0, p1, p2]) (l := l) (kvs := kvs) (by simpa using hc)
  simpa using q
@[simp] theorem fin_pi3 {C : Str} {fs : List (Str × W)} (hc : ∀ x ∈ fs, Cls (h.length + 3) x.2) : fin (h ++ [p0, p1, p2]) (.ok (.ref (h.length + 3)) (h ++ (p0 :: p1 :: p2 :: .ins C fs :: l))) = .ok (.vi C fs) (h ++ [p0, p1, p2]) := by
  have q := fin_i0 (h := h ++ [p0, p1, p2]) (l := l) (C := C) (fs := fs) (by simpa using hc)
  simpa using q
end
/-! ### comprehensions -/
/-- a list by a block that changes nothing -/
theorem fz_lc {α : Type} {it : MS → MH → R MI} {mi : MI} {vs : List Nat} {tg : GM} {t : TM} {e : EM} (xs : List α) (φ : α → W) (p : α → Bool) (f : α → W) (hi : it σ h = .ok mi h) (hf : mi.fuel = xs.length) (hw : ∀ i g, mi.nx i g = some (xs[i]?.map φ)) (hz : xs.length ≤ sizeLine)
    (hs : ∀ a ∈ xs, ∀ acc, ∃ σ1, tg (φ a) (wipeM σ vs) (h ++ [.lst acc]) = some σ1 ∧ t σ1 (h ++ [.lst acc]) = .ok (p a) (h ++ [.lst acc]) ∧ (p a = true → e σ1 (h ++ [.lst acc]) = .ok (f a) (h ++ [.lst acc])))
    (hc : ∀ a ∈ xs, p a = true → Cls h.length (f a)) : fin h (eLc it vs tg t e σ h) = .ok (.vl ((xs.filter p).map f)) h := by
  rw [ev_lc, hi]
  simp only [R.bind_ok]
  rw [hf, lc_pure (h0 := h) xs φ p f hz (fun i acc => hw i _) hs]
  refine fin_l0 fun x hx => ?_
  obtain ⟨a, ha, rfl⟩ := List.mem_map.mp hx
  obtain ⟨h1, h2⟩ := List.mem_filter.mp ha
  exact hc a h1 h2
/-- a loop that changes nothing, up to the first turn that returns -/
theorem for_find {α : Type} {mi : MI} {tg : GM} {body : SM} (xs : List α) (φ : α → W) (p : α → Bool) (w : α → W) (J : MS → Prop) (hf : mi.fuel = xs.length) (hw : ∀ i g, mi.nx i g = some (xs[i]?.map φ))
    (hs : ∀ a ∈ xs, ∀ σ, J σ → ∃ σ1, tg (φ a) σ h = some σ1 ∧ if p a = true then body σ1 h = .rt (w a) h else ∃ σ2, body σ1 h = .nx σ2 h ∧ J σ2) (hJ : J σ) :
    match xs.find? p with
    | some a => forGo mi tg body mi.fuel 0 σ h = .rt (w a) h
    | none => ∃ σ', forGo mi tg body mi.fuel 0 σ h = .nx σ' h ∧ J σ' := by
  have key : ∀ (n k : Nat) (ys : List α) (σ : MS), xs.drop k = ys → ys.length = n → J σ → match ys.find? p with
    | some a => forGo mi tg body n k σ h = .rt (w a) h
    | none => ∃ σ', forGo mi tg body n k σ h = .nx σ' h ∧ J σ' := by
    intro n
    induction n with
    | zero =>
      intro k ys σ e1 e2 hj
      have : ys = [] := List.eq_nil_of_length_eq_zero e2
      subst this
      have : xs[k]? = none := by
        rw [List.getElem?_eq_none_iff]
        exact List.drop_eq_nil_iff.mp e1
      refine ⟨σ, ?_, hj⟩
      unfold forGo
      rw [hw, this]
      rfl
    | succ n ih =>
      intro k ys σ e1 e2 hj
      cases ys with
      | nil => cases e2
      | cons a ys =>
        have ha : xs[k]? = some a := by
          have := congrArg (·[0]?) e1
          simpa using this
        have hd : xs.drop (k + 1) = ys := by
          have := congrArg List.tail e1
          simpa using this
        obtain ⟨σ1, s1, s2⟩ := hs a (List.mem_of_getElem? ha) σ hj
        have step : forGo mi tg body (n + 1) k σ h = match body σ1 h with
          | .nx σ2 h2 => forGo mi tg body n (k + 1) σ2 h2
          | .ct σ2 h2 => forGo mi tg body n (k + 1) σ2 h2
          | .bk σ2 h2 => .nx σ2 h2
          | r => r := by
          conv => lhs; unfold forGo
          rw [hw, ha]
          simp only [Option.map_some, s1]
          cases body σ1 h <;> rfl
        rw [step, List.find?_cons]
        cases hp : p a with
        | true =>
          rw [hp, if_pos rfl] at s2
          rw [s2]
        | false =>
          rw [hp, if_neg Bool.false_ne_true] at s2
          obtain ⟨σ2, s3, s4⟩ := s2
          rw [s3]
          exact ih (k + 1) ys σ2 hd (Nat.succ.inj e2) s4
  have := key xs.length 0 xs σ (by simp) rfl hJ
  rw [hf]
  exact this
end
end PM
/-! Sm46: frozen dicts: made by comprehensions, merged, compared. -/
noncomputable section
namespace PM
open PySem L2
section
variable {σ : MS} {h g l : MH}
/-- the keys of what passes, each once -/
theorem put_new {κ α : Type} [DecidableEq κ] {l : List (κ × α)} {k : κ} {v : α} (n : k ∉ l.map (·.1)) : putM l k v = l ++ [(k, v)] := by
  unfold putM
  rw [any_val, val_none.mpr n]
  exact if_neg Bool.false_ne_true
theorem dc_pure {α : Type} {mi : MI} {tg : GM} {t : TM} {mk m : EM} (xs : List α) (φ : α → W) (p : α → Bool) (kf vf : α → Int) (n : (xs.map kf).Nodup) (hz : xs.length ≤ sizeLine) (hw : ∀ i acc, mi.nx i (h ++ [.dct acc]) = some (xs[i]?.map φ))
    (hb : ∀ a ∈ xs, ∀ acc, ∃ σ1, tg (φ a) σ (h ++ [.dct acc]) = some σ1 ∧ t σ1 (h ++ [.dct acc]) = .ok (p a) (h ++ [.dct acc]) ∧ (p a = true → mk σ1 (h ++ [.dct acc]) = .ok (.int (kf a)) (h ++ [.dct acc]) ∧ m σ1 (h ++ [.dct acc]) = .ok (.int (vf a)) (h ++ [.dct acc]))) :
    dcGo mi tg t mk m σ h.length xs.length 0 (h ++ [.dct []]) = .ok (.ref h.length) (h ++ [.dct (D ((xs.filter p).map fun a => (kf a, vf a)))]) := by
  have go : ∀ (fu i : Nat), i + fu = xs.length → dcGo mi tg t mk m σ h.length fu i (h ++ [.dct (D (((xs.take i).filter p).map fun a => (kf a, vf a)))]) = .ok (.ref h.length) (h ++ [.dct (D ((xs.filter p).map fun a => (kf a, vf a)))]) := by
    intro fu
    induction fu with
    | zero =>
      intro i e
      have e : i = xs.length := by omega
      subst e
      simp [dcGo, hw]
    | succ fu ih =>
      intro i e
      have hi : i < xs.length := by omega
      obtain ⟨σ1, e1, e2, e3⟩ := hb xs[i] (List.getElem_mem hi) (D (((xs.take i).filter p).map fun a => (kf a, vf a)))
      have tk : xs.take (i + 1) = xs.take i ++ [xs[i]] := by simp [hi]
      have hl : (D (((xs.take i).filter p).map fun a => (kf a, vf a))).length < sizeLine := by
        have := List.length_filter_le p (xs.take i)
        rw [List.length_take] at this
        rw [D_len, List.length_map]; omega
      have fin := ih (i + 1) (by omega)
      rw [tk, List.filter_append, List.map_append] at fin
      unfold dcGo
      simp only [hw, List.getElem?_eq_getElem hi, Option.map_some, e1, e2, R.nox_ok, R.bind_ok]
      cases hp : p xs[i] with
      | false =>
        simp only [Bool.false_eq_true, if_false]
        simpa [List.filter_cons, hp] using fin
      | true =>
        obtain ⟨e4, e5⟩ := e3 hp
        have nw : kf xs[i] ∉ (((xs.take i).filter p).map fun a => (kf a, vf a)).map (·.1) := fun z => by
          rw [List.map_map] at z
          obtain ⟨a, ha, ea⟩ := List.mem_map.mp z
          have ha := (List.mem_filter.mp ha).1
          rw [← List.take_append_drop i xs, List.map_append, List.nodup_append] at n
          exact n.2.2 _ (List.mem_map.mpr ⟨a, ha, rfl⟩) _ (by rw [List.drop_eq_getElem_cons hi]; exact .head _) ea
        simp only [if_true, e4, e5, R.nox_ok, R.bind_ok, get_app_0, List.getElem?_cons_zero, keyOf, if_pos hl, D_put, put_new nw, set_app_0, List.set_cons_zero]
        simpa [List.filter_cons, hp] using fin
  exact go xs.length 0 (by omega)
theorem fz_dc {α : Type} {it : MS → MH → R MI} {mi : MI} {vs : List Nat} {tg : GM} {t : TM} {mk m : EM} (xs : List α) (φ : α → W) (p : α → Bool) (kf vf : α → Int) (hi : it σ h = .ok mi h) (hf : mi.fuel = xs.length) (hw : ∀ i g, mi.nx i g = some (xs[i]?.map φ)) (n : (xs.map kf).Nodup) (hz : xs.length ≤ sizeLine)
    (hs : ∀ a ∈ xs, ∀ acc, ∃ σ1, tg (φ a) (wipeM σ vs) (h ++ [.dct acc]) = some σ1 ∧ t σ1 (h ++ [.dct acc]) = .ok (p a) (h ++ [.dct acc]) ∧ (p a = true → mk σ1 (h ++ [.dct acc]) = .ok (.int (kf a)) (h ++ [.dct acc]) ∧ m σ1 (h ++ [.dct acc]) = .ok (.int (vf a)) (h ++ [.dct acc]))) :
    fin h (eDc it vs tg t mk m σ h) = .ok (.vd (D ((xs.filter p).map fun a => (kf a, vf a)))) h := by
  rw [ev_dc, hi]
  simp only [R.bind_ok]
  rw [hf, dc_pure (h := h) xs φ p kf vf n hz (fun i acc => hw i _) hs]
  exact fin_d0 (D_cls _ _)
/-! ### in the order of their keys -/
def Sd (s : DI) : Prop := (s.map (·.1)).Pairwise (· < ·)
theorem Sd.nd {s : DI} (d : Sd s) : (s.map (·.1)).Nodup := d.imp fun h e => by omega
theorem S_sd {l : DI} (n : (l.map (·.1)).Nodup) : Sd (S l) := by
  unfold Sd
  rw [S_keys]
  have h1 : (srtI (l.map (·.1))).Pairwise (· ≤ ·) := List.Pairwise.imp (fun h => of_decide_eq_true h) (List.pairwise_mergeSort (le := fun (a c : Int) => decide (a ≤ c)) (fun a b c h1 h2 => decide_eq_true (Int.le_trans (of_decide_eq_true h1) (of_decide_eq_true h2))) (fun a b => by
      rcases Int.le_total a b with h | h
      · simp [h]
      · simp [h]) _)
  have h2 : (srtI (l.map (·.1))).Nodup := (srtI_perm _).nodup_iff.mpr n
  exact (h1.and h2).imp fun ⟨a, b⟩ => by omega
theorem Sd.srt {s : DI} (d : Sd s) : srtI (s.map (·.1)) = s.map (·.1) := (srtI_eq (List.Perm.refl _) (d.imp fun h => Int.le_of_lt h)).symm
theorem Sd.S {s : DI} (d : Sd s) : S s = s := by
  unfold PM.S
  rw [d.srt, List.map_map]
  conv => rhs; rw [← List.map_id s]
  refine List.map_congr_left fun p hp => ?_
  show (p.1, (valM s p.1).getD 0) = p
  rw [val_of_mem d.nd (v := p.2) hp]
  rfl
theorem Sd.ext {s t : DI} (d : Sd s) (e : Sd t) (h : ∀ k, valM s k = valM t k) : s = t := by
  rw [← d.S, ← e.S]
  exact S_congr d.nd e.nd h
theorem Sd.filter {s : DI} (d : Sd s) (p : Int × Int → Bool) : Sd (s.filter p) := List.Pairwise.sublist (List.Sublist.map _ List.filter_sublist) d
theorem val_filter {s : DI} (n : (s.map (·.1)).Nodup) (p : Int × Int → Bool) (k : Int) : valM (s.filter p) k = (valM s k).filter fun v => p (k, v) := by
  have n2 : ((s.filter p).map (·.1)).Nodup := List.Nodup.sublist (List.Sublist.map _ List.filter_sublist) n
  cases h : valM s k with
  | none =>
    rw [val_none] at h
    exact val_none.mpr fun z => h (List.Sublist.subset (List.Sublist.map _ List.filter_sublist) z)
  | some v =>
    cases hp : p (k, v) with
    | true =>
      rw [val_of_mem n2 (v := v) (List.mem_filter.mpr ⟨val_mem h, hp⟩)]
      simp [Option.filter, hp]
    | false =>
      have : valM (s.filter p) k = none := val_none.mpr fun z => by
        obtain ⟨q, hq, rfl⟩ := List.mem_map.mp z
        obtain ⟨h1, h2⟩ := List.mem_filter.mp hq
        have := val_of_mem n (v := q.2) h1
        rw [h] at this
        cases this
        rw [hp] at h2
        cases h2
      rw [this]
      simp [Option.filter, hp]
/-! ### equal dicts -/
theorem D_hitsB {l : DI} : ∀ m : DI, hitsM (D l) (D m) = some (m.all fun p => decide (valM l p.1 = some p.2))
  | [] => rfl
  | p :: m => by
    show hitsM (D l) ((Sum.inl p.1, W.int p.2) :: D m) = _
    unfold hitsM
    rw [D_val, D_hitsB m]
    cases h : valM l p.1 with
    | none => simp [h]
    | some v =>
      simp only [Option.map_some, flatD, List.all_cons, h, Option.bind_some]
      rw [eqv_int]
      by_cases e : v = p.2
      · subst e
        simp
      · have e1 : (p.2 == v) = false := by simp; omega
        have e2 : (v == p.2) = false := by simp; omega
        simp [e1, e2, e]
theorem nodup_le : ∀ {l m : List Int}, l.Nodup → (∀ k ∈ l, k ∈ m) → l.length ≤ m.length
  | [], _, _, _ => Nat.zero_le _
  | a :: l, m, n, h => by
    obtain ⟨n1, n2⟩ := List.nodup_cons.mp n
    have am := h a (.head _)
    have := nodup_le (m := m.erase a) n2 fun k hk => (List.mem_erase_of_ne (show k ≠ a from fun e => n1 (e ▸ hk))).mpr (h k (.tail _ hk))
    rw [List.length_erase_of_mem am] at this
    have : 0 < m.length := List.length_pos_of_mem am
    simp only [List.length_cons]; omega
theorem nodup_sub {l m : List Int} (n : l.Nodup) (h : ∀ k ∈ l, k ∈ m) (hl : m.length ≤ l.length) : ∀ k ∈ m, k ∈ l := fun k hk => Classical.byContradiction fun z => by
  have := nodup_le (m := m.erase k) n fun j hj => (List.mem_erase_of_ne (show j ≠ k from fun e => z (e ▸ hj))).mpr (h j hj)
  rw [List.length_erase_of_mem hk] at this
  have : 0 < m.length := List.length_pos_of_mem hk
  omega
theorem eqD_vd {s t : DI} (neg : Bool) (d : Sd s) (e : Sd t) : bEqD neg (.vd (D s)) (.vd (D t)) h = .ok (.bl (if neg then !decide (s = t) else decide (s = t))) h := by
  unfold bEqD
  simp only [dctW_vd, D_len, D_hitsB]
  by_cases hl : s.length = t.length
  · rw [if_pos hl]
    have key : (s.all fun p => decide (valM t p.1 = some p.2)) = decide (s = t) := by
      by_cases q : s = t
      · subst q
        rw [decide_eq_true rfl, List.all_eq_true]
        exact fun p hp => decide_eq_true (val_of_mem d.nd hp)
      · rw [decide_eq_false q]
        refine Bool.eq_false_iff.mpr fun z => q ?_
        rw [List.all_eq_true] at z
        have sub : ∀ k ∈ s.map (·.1), k ∈ t.map (·.1) := fun k hk => by
          obtain ⟨p, hp, rfl⟩ := List.mem_map.mp hk
          have := of_decide_eq_true (z p hp)
          exact List.mem_map.mpr ⟨_, val_mem this, rfl⟩
        have back := nodup_sub d.nd sub (by simp [hl])
        refine d.ext e fun k => ?_
        cases hk : valM s k with
        | some v => exact (of_decide_eq_true (z _ (val_mem hk))).symm
        | none =>
          rw [val_none] at hk
          exact (val_none.mpr fun y => hk (back k y)).symm
    rw [key]
  · rw [if_neg hl]
    have : s ≠ t := fun q => hl (by rw [q])
    simp [this]
@[simp] theorem eqX_vd (f : W → W → MH → R W) {x : List (Key × W)} {y : W} : bEqX f (.vd x) y h = bEqD false (.vd x) y h := rfl
@[simp] theorem neX_vd (f : W → W → MH → R W) {x : List (Key × W)} {y : W} : bNeX f (.vd x) y h = bEqD true (.vd x) y h := rfl
@[simp] theorem eqX_vl (f : W → W → MH → R W) {x : List W} {y : W} : bEqX f (.vl x) y h = bEq (.vl x) y h := rfl
@[simp] theorem neX_vl (f : W → W → MH → R W) {x : List W} {y : W} : bNeX f (.vl x) y h = bNe (.vl x) y h := rfl
@[simp] theorem eqX_int (f : W → W → MH → R W) {x : Int} {y : W} : bEqX f (.int x) y h = bEq (.int x) y h := rfl
@[simp] theorem neX_int (f : W → W → MH → R W) {x : Int} {y : W} : bNeX f (.int x) y h = bNe (.int x) y h := rfl
@[simp] theorem eqX_bl (f : W → W → MH → R W) {x : Bool} {y : W} : bEqX f (.bl x) y h = bEq (.bl x) y h := rfl
@[simp] theorem neX_bl (f : W → W → MH → R W) {x : Bool} {y : W} : bNeX f (.bl x) y h = bNe (.bl x) y h := rfl
@[simp] theorem eqX_str (f : W → W → MH → R W) {x : Str} {y : W} : bEqX f (.str x) y h = bEq (.str x) y h := rfl
@[simp] theorem neX_str (f : W → W → MH → R W) {x : Str} {y : W} : bNeX f (.str x) y h = bNe (.str x) y h := rfl
@[simp] theorem eqX_vi (f : W → W → MH → R W) {C : Str} {x : List (Str × W)} {y : W} : bEqX f (.vi C x) y h = f (.vi C x) y h := rfl
@[simp] theorem neX_vi (f : W → W → MH → R W) {C : Str} {x : List (Str × W)} {y : W} : bNeX f (.vi C x) y h = f (.vi C x) y h := rfl
theorem eq_vl_ints {l m : List Int} : bEq (.vl (l.map W.int)) (.vl (m.map W.int)) h = .ok (.bl (decide (l = m))) h := by
  rw [eq_of_data (d := .list (l.map PyData.int)) (e := .list (m.map PyData.int)) rfl (by simp [dataW, data_ints]) (by simp [dataW, data_ints]) (shaped_ints l) (shaped_ints m), PyData.eqv, eqvAll_ints]
theorem ne_vl_ints {l m : List Int} : bNe (.vl (l.map W.int)) (.vl (m.map W.int)) h = .ok (.bl (!decide (l = m))) h := by
  rw [ne_of_data (d := .list (l.map PyData.int)) (e := .list (m.map PyData.int)) rfl (by simp [dataW, data_ints]) (by simp [dataW, data_ints]) (shaped_ints l) (shaped_ints m), PyData.eqv, eqvAll_ints]
@[simp] theorem ne_nil_nil : bNe (.vl []) (.vl []) h = .ok (.bl false) h := ne_vl_ints (l := []) (m := [])
@[simp] theorem eq_nil_nil : bEq (.vl []) (.vl []) h = .ok (.bl true) h := eq_vl_ints (l := []) (m := [])
/-! ### {**a, **b} -/
theorem fz_mrg {ma mc : EM} {s t : DI} (h1 : ∀ ls, ma σ (h ++ ls) = .ok (.vd (D s)) (h ++ ls)) (h2 : ∀ ls, mc σ (h ++ ls) = .ok (.vd (D t)) (h ++ ls)) (n : (s.map (·.1)).Nodup) (hz : s.length + t.length ≤ sizeLine) : fin h (eMrg ma mc σ h) = .ok (.vd (D (mergeM s t))) h := by
  have m0 : mergeM ([] : List (Key × W)) (D s) = D s := by
    have := D_merge [] s
    rw [merge_self (l := []) (m := s) (by simpa using n)] at this
    rw [D_nil] at this
    exact this
  unfold eMrg
  rw [h1]
  simp only [R.bind_ok, get_app_0, List.getElem?_cons_zero, dctW_vd, sameR]
  rw [if_pos ⟨trivial, by simp [D_len]; omega⟩, set_app_0, List.set_cons_zero, m0, h2]
  simp only [R.bind_ok, get_app_0, List.getElem?_cons_zero, dctW_vd, sameR]
  rw [if_pos ⟨trivial, by have := len_merge s t; simp only [D_len]; omega⟩, set_app_0, List.set_cons_zero, D_merge]
  exact fin_d0 (D_cls _ _)
end
end PM
/-! Sm47: enumerate, a list turned round, repr of an own class. -/
noncomputable section
namespace PM
open PySem PySem.Spec L2
open PyProof.Rows hiding St
section
variable {X : Cx} {Wx : WX}
/-! ### enumerate(list) -/
def itE (w : W) (n : Nat) : MI := ⟨n, fun k g => match lstW g w with
  | some ys => some (ys[k]?.map fun x => .tup [.int k, x])
  | none => none⟩
def iEnm (m : EM) : MS → MH → R MI := fun σ h => (m σ h).bind fun w g => match lstW g w with
  | some xs => .ok (itE w xs.length) g
  | none => .stuck
theorem itE_ok {K : PySem.W.Frag} {c : Bs} {w : W} {a : Addr} {n : Nat} (r : Rl K c w (.ref a)) : ItS K c (itE w n) (Ite K a) := by
  intro b h k x S
  unfold itE
  dsimp only
  cases e : lstW h w with
  | none => trivial
  | some ys =>
    dsimp only
    obtain ⟨a', us, ea, hs, rr⟩ := S.listW (r.ext x) e
    cases ea
    cases ey : ys[k]? with
    | none =>
      refine ⟨us, hs, ?_⟩
      have := List.getElem?_eq_none_iff.mp ey
      rw [← rr.length]; exact this
    | some y =>
      obtain ⟨u, eu, ru⟩ := rr.get ey
      refine ⟨⟨us, u, hs, eu⟩, fun z H' ⟨T, x', e1, hT, eH, hx⟩ => ?_⟩
      have := hx us hs
      rw [eu] at this
      cases this
      subst e1 eH
      have ex := Ext.also (K := K) (o := .tup [.int (k : Nat), u]) hT
      exact ⟨_, rfl, ex, S.also hT, .tup T _ _ (.inl (.inl upd_same)) (.cons (.int _) (.cons (ru.ext ex) .nil))⟩
theorem si_enum {e : Expr} {me : EM} {p pos tpos : Pos} {elts : List Expr} {kk : Nat} (hg : Gl X "enumerate") (hm : X.mg "enumerate" = none) (he : SE X Wx e me) (hs : starEach [e] X.env = [(false, eval e X.env)] := by rfl) :
    SI X Wx (.Tuple elts kk tpos) (.Call (.Name "enumerate" p) [e] [] pos) (iEnm me) := ⟨pi_imp (pi_enum hg hm (sa_cons he sa_nil hs).pa hs) fun σ H Rr ⟨b, h, σm, eH, S, l, q⟩ => by
  refine ⟨b, h, σm, eH, S, l, ?_⟩
  have q : Post X.K (ItS X.K) (fun c d H' => Wx c d σ H') b Rr ((me σm h).bind fun w g => match lstW g w with
    | some xs => .ok (itE w xs.length) g
    | none => .stuck) := q
  show Post X.K (Rls X.K) _ b _ ((me σm h).bind _)
  cases em : me σm h with
  | stuck => rw [em] at q; exact q.elim
  | exc x g => rw [em] at q; exact q
  | ok w g =>
    rw [em] at q
    intro c vs x s r
    obtain ⟨v, rfl, rv⟩ := rls1 r
    simp only [R.bind_ok] at q
    cases ew : lstW g w with
    | none => rw [ew] at q; exact q.elim
    | some xs =>
      rw [ew] at q
      obtain ⟨a, us, rfl, hs2, rr⟩ := s.listW rv ew
      exact ⟨a, us, rfl, hs2, q c (Ite X.K a) x s (itE_ok rv)⟩⟩
/-! ### xs[::-1] -/
def eRev (m : EM) : EM := fun σ h => (m σ h).bind fun w g => match lstW g w with
  | some xs => .ok (.ref g.length) (g ++ [.lst xs.reverse])
  | none => .stuck
theorem Rls.rev {K : PySem.W.Frag} {b : Bs} : ∀ {ws : List W} {vs : List V}, Rls K b ws vs → Rls K b ws.reverse vs.reverse
  | _, _, .nil => .nil
  | _, _, .cons r rr => by
    rw [List.reverse_cons, List.reverse_cons]
    exact (Rls.rev rr).append (.cons r .nil)
theorem se_rev {e : Expr} {me : EM} {k : Nat} {p1 p2 p3 pos : Pos} (he : SE X Wx e me) : SE X Wx (.Subscript e (.Slice none none (some (.UnaryOp .USub (.Constant (.int 1) k p1) p2)) p3) pos) (eRev me) := by
  refine ⟨pe_imp (pe_revL he.pe) fun σ H Q ⟨b, h, σm, e, S, l, q⟩ => ?_⟩
  refine ⟨b, h, σm, e, S, l, (Post.bind (rel := Rl X.K) q).mono fun v H1 ⟨c, w, g, e, x, s, r, p⟩ => ?_⟩
  subst e
  cases ew : lstW g w with
  | none => rw [ew] at p; exact p.elim
  | some xs =>
    rw [ew] at p
    obtain ⟨a, us, rfl, hs, rr⟩ := s.listW r ew
    exact ⟨a, us, rfl, hs, fun q hq => Post.lst s rr.rev p hq⟩
/-! ### repr of an own class -/
variable {f : Addr} {C : Str} {m : List W → MH → R W}
def bReprI (C : Str) (m : List W → MH → R W) (ws : List W) (h : MH) : R W := match ws with
  | [x] => match insW h x with
    | some (C', _) => if C' = C then (m [x] h).bind fun r h1 => match r with
      | .str z => .ok (.str z) h1
      | _ => .stuck else .stuck
    | none => .stuck
  | _ => .stuck
theorem cs_reprI {k : Nat} (hr : Room (k + 2) X.A) (cm : CalM X Wx f 1 m) (hs : PySem.W.findIn X.K (.ref (He.ga X.K C)) "__repr__" = some (some (.ref f))) (hf : PySem.W.isFn X.K (.ref f) = true) : CallS X Wx (.builtin "repr") (bReprI C m) := ⟨fun pins s σ b h ws vs us Q I S r rv q => by
  unfold bReprI at q
  split at q
  · rename_i x
    obtain ⟨y, rfl, r1⟩ := rls1 r
    obtain ⟨u, rfl, ru⟩ := rv.one
    split at q
    · rename_i C' fs ei
      by_cases hC : C' = C
      case neg => rw [if_neg hC] at q; exact q.elim
      rw [if_pos hC] at q
      subst hC
      obtain ⟨ad, dx, ps, rfl, h3, _⟩ := S.insW r1 ei
      obtain ⟨mA, O, _⟩ := ins_get I.hok h3
      obtain ⟨od, J, _⟩ := O.look
      obtain ⟨mm, hF⟩ := I.fr
      cases ru
      refine PySem.W.repr_K hr.in1.units0 hF I.ok.mod.kin J hs hf ?_
      refine wpAny_mono (cm.in1 (us := [.ref ad]) (vs := [.ref ad]) I (.cons rfl .nil) S (.cons r1 .nil) rfl (Post.bind (rel := Rl X.K) q)) (fun w s' hq => ?_) fun _ _ z => z
      obtain ⟨z, H', I', rz, c1, wz, h1, eH, E1, S1, rw, q'⟩ := hq
      subst eH
      cases rw with
      | str k =>
        obtain ⟨t, rfl⟩ := rz
        exact ⟨.str k, _, I', ⟨t, rfl⟩, q'.here S1 (.str _)⟩
      | _ => exact q'.elim
    · exact q.elim
  · exact q.elim⟩
end
end PM
/-! Sm48: an empty tuple as a default. -/
noncomputable section
namespace PM
open PySem PySem.Spec L2
open PyProof.Rows hiding St
theorem tupB_ok {K : PySem.W.Frag} {a : Addr} (h : tupB K a = true) : ∀ H, SqT K H a [] := fun H => by
  unfold tupB at h
  split at h
  · rename_i c d its n sl e
    obtain ⟨h1, h2⟩ := Bool.and_eq_true_iff.mp h
    have h1 := of_decide_eq_true h1
    subst h1
    have h3 : its = #[] := by simpa using h2
    subst h3
    exact .inr ⟨_, #[], n, e, rfl, rfl, by simp, .nil⟩
  · cases h
theorem rl_tup0 {K : PySem.W.Frag} {b : Bs} {a : Addr} (h : ∀ H, SqT K H a []) : Rl K b (.tup []) (.ref a) := .tup a [] [] (h _) .nil
end PM
/-! Sm49: places and membership in lists of data at any depth; a changed result that may be no new object. -/
noncomputable section
namespace PM
open PySem PySem.Spec L2
open PyProof.Rows hiding St
section
variable {X : Cx} {Wx : WX}
/-- xs.index(y) -/
def bIdx (ws : List W) (h : MH) : R W := match ws with
  | [x, y] => match dataW h 20 x, dataW h 20 y with
    | some (.list ds), some d => if SeqAt.shaped (.list ds) = true ∧ SeqAt.shaped d = true then match ds.findIdx? (fun z => PyData.eqv z d) with
        | some j => .ok (.int (j : Nat)) h
        | none => .stuck
      else .stuck
    | _, _ => .stuck
  | _ => .stuck
theorem cs_index {k : Nat} (hr : Room (k + 8) X.A) : CallS X Wx (.builtin "list.index") bIdx := .mt (mt_indexD (by have := hr.un; omega)) fun σ b h ws vs Q S r q => by
  unfold bIdx at q
  split at q
  · rename_i x y
    cases r with
    | cons r1 rr => cases rr with
      | cons r2 rr =>
        cases rr
        split at q
        · rename_i ds d e1 e2
          split at q
          · rename_i hs
            split at q
            · rename_i j ej
              have d1 := dp_of S 20 _ _ _ e1 r1
              have d2 := dp_of S 20 _ _ _ e2 r2
              obtain ⟨hj, hp, hn⟩ := List.findIdx?_eq_some_iff_getElem.mp ej
              cases d1 with
              | lst hq ha =>
                refine ⟨_, _, rfl, _, _, d, ds, j, ds[j], rfl, rfl, .lst hq ha, d2, hs.1, hs.2, List.getElem?_eq_getElem hj, hp, fun m z hm ez => ?_, q.here S (.int _)⟩
                have hm' : m < ds.length := by omega
                rw [List.getElem?_eq_getElem hm'] at ez
                cases ez
                have := hn m hm
                simpa using this
            · exact q.elim
          · exact q.elim
        · exact q.elim
  · exact q.elim
/-- x in y, data at any depth -/
def inD (neg : Bool) : W → W → MH → R W := fun x y h => match dataW h 20 x, dataW h 20 y with
  | some d, some (.list ds) => if SeqAt.shaped d = true ∧ SeqAt.shaped (.list ds) = true then .ok (.bl (if neg then !ds.any (fun z => PyData.eqv z d) else ds.any fun z => PyData.eqv z d)) h else .stuck
  | _, _ => .stuck
theorem inD_read {K : PySem.W.Frag} {We : Value → Option Addr → Hp → Prop} {neg : Bool} {b : Bs} {h : MH} {x y : W} {x' y' : V} {Q : VK} (S : Sim K b h) (r1 : Rl K b x x') (r2 : Rl K b y y') (q : Post K (Rl K) We b Q (inD neg x y h)) :
    ∃ d ds, Dp K b.H x' d ∧ Dp K b.H y' (.list ds) ∧ SeqAt.shaped d = true ∧ SeqAt.shaped (.list ds) = true ∧ Q (.bl (if neg then !ds.any (fun z => PyData.eqv z d) else ds.any fun z => PyData.eqv z d)) b.H := by
  unfold inD at q
  split at q
  · rename_i d ds e1 e2
    split at q
    · rename_i hs
      exact ⟨d, ds, dp_of S 20 _ _ _ e1 r1, dp_of S 20 _ _ _ e2 r2, hs.1, hs.2, q.here S (.bl _)⟩
    · exact q.elim
  · exact q.elim
theorem os_inD {k : Nat} (hr : Room (k + 8) X.A) : OpS X Wx (compareOp .In) (inD false) := .of (op_inD (by have := hr.un; omega)) fun σ b h x y x' y' Q S r1 r2 q => by
  obtain ⟨d, ds, h1, h2, h3, h4, q⟩ := inD_read S r1 r2 q
  exact ⟨d, ds, h1, h2, h3, h4, q⟩
theorem os_notinD {k : Nat} (hr : Room (k + 8) X.A) : OpS X Wx (compareOp .NotIn) (inD true) := .of (op_notInD (by have := hr.un; omega)) fun σ b h x y x' y' Q S r1 r2 q => by
  obtain ⟨d, ds, h1, h2, h3, h4, q⟩ := inD_read S r1 r2 q
  exact ⟨d, ds, h1, h2, h3, h4, q⟩
/-- `own` of a new object, else frozen -/
def ownA (h : MH) (r : R W) : R W := match r with
  | .ok (.ref j) h' => if h.length ≤ j then own h (.ok (.ref j) h') else fin h (.ok (.ref j) h')
  | r => fin h r
theorem ownA_post {K : PySem.W.Frag} {b : Bs} {h : MH} {We : Value → Option Addr → Hp → Prop} {Q : V → Hp → Prop} {r : R W} (S : Sim K b h) (q : Post K (Rl K) We b Q (ownA h r)) : Post K (Rl K) We b Q r := by
  unfold ownA at q
  split at q
  · split at q
    · exact own_post S q
    · exact fin_post S q
  · exact fin_post S q
def owa (m : FM) : FM := fun ws h => ownA h (m ws h)
theorem FnG.owa {P : Program} {w : World} {K : PySem.W.Frag} {mg : Str → Option Value} {base : Heap} {k : Nat} {f : Addr} {m1 : FM} {fd : FuncData} {ps : List Str} (F : FnG P w K mg base k f fd ps m1) : FnG P w K mg base k f fd ps (PM.owa m1) :=
  ⟨fun ws h e => by show ownA h (m1 ws h) = _; rw [F.len ws h e]; rfl, fun A outer s b h args us vs ws Q E hr hg e0 hb rv S rw q => F.run A outer s b h args us vs ws Q E hr hg e0 hb rv S rw (ownA_post S q)⟩
def eOwa (m : EM) : EM := fun σ h => ownA h (m σ h)
theorem SE.owa {e : Expr} {m : EM} (S : SE X Wx e m) : SE X Wx e (eOwa m) := ⟨pe_imp S.pe fun σ H Q ⟨b, h, σm, e, s, l, q⟩ => ⟨b, h, σm, e, s, l, ownA_post s q⟩⟩
end
end PM
/-! Sm50: sorted lists of pairs of integers. -/
noncomputable section
namespace L2
open PySem PySem.Spec PyProof.Rows
/-- the pairs may stand in the text, or be locked -/
theorem cr_sortedPT {X : Cx} : CallR X (.builtin "sorted") (fun vs H Q => ∃ (a : Addr) (xs : List V) (k : V → Int × Int), vs = [V.ref a] ∧ SqL X.K H a xs ∧ (∀ x ∈ xs, ∃ t, x = V.ref t ∧ SqT X.K H t [.int (k x).1, .int (k x).2]) ∧
    ∀ ys p, SrtO.Srtd (ltP k) ys → SrtO.Stb (ltP k) ys xs → H p = none → Q (.ref p) (upd H p (.lst ys))) := by
  intro pins s σ H vs us Q I r h
  obtain ⟨a, xs, k, rfl, hs, hx, q⟩ := h
  obtain ⟨its, rv, hl, hz⟩ := I.list hs
  obtain ⟨u, rfl, ru⟩ := vals1 r
  obtain rfl : u = Value.ref a := ru
  obtain ⟨e1, e2⟩ := refs_back rv fun x m => by
    obtain ⟨t, e, _⟩ := hx x m
    exact ⟨t, e⟩
  refine SrtO.sorted_pairsO (k := fun u => k (backV u)) hl.isList (by rw [← rv.length]; exact hz) (fun v hv => ?_) fun h' d out h1 h2 kp hd hn => ?_
  · obtain ⟨t, rfl⟩ := e2 v hv
    have hm : V.ref t ∈ xs := by rw [e1]; exact List.mem_map.mpr ⟨_, hv, rfl⟩
    obtain ⟨t', e, ht⟩ := hx _ hm
    cases e
    obtain ⟨its2, r2, it, _⟩ := I.tuple ht
    obtain ⟨o, ho, hc, n, hd⟩ := it
    obtain ⟨u1, u2, rfl, ri, rj⟩ := vals2 r2
    obtain ⟨t1, rfl⟩ := ri
    obtain ⟨t2, rfl⟩ := rj
    exact ⟨t, o, t1, t2, n, rfl, ho, hc, hd⟩
  · have h3 : ∀ u ∈ out, ∃ a, u = Value.ref a := fun u hu => e2 u (h2.perm.mem_iff.mp hu)
    obtain ⟨n, hn⟩ := hn
    have hb : SrtO.Stb (ltP k) (out.map backV) xs := by
      rw [e1]
      exact SrtO.Stb.map (ltP_swo k) backV h2
    refine ⟨.ref d, upd H d (.lst (out.map backV)), I.laid (t' := s.toks) kp hd ⟨?_, out, n, vals_back h3, hn⟩, rfl, q _ d (SrtO.srtd_map h1) hb (I.hok.fresh hd)⟩
    rw [hb.len]
    exact hz
end L2
namespace PM
open PySem PySem.Spec L2
open PyProof.Rows hiding St
def srtP (l : List (Int × Int)) : List (Int × Int) := l.mergeSort fun a c => !SrtO.lexB c a
theorem lex_anti {p q : Int × Int} (h1 : SrtO.lexB p q = false) (h2 : SrtO.lexB q p = false) : p = q := by
  have a := SrtO.lexB_no.mp h1
  have b := SrtO.lexB_no.mp h2
  obtain ⟨p1, p2⟩ := p
  obtain ⟨q1, q2⟩ := q
  dsimp only at a b
  have e1 : p1 = q1 := by omega
  have e2 : p2 = q2 := by omega
  rw [e1, e2]
theorem srtP_perm (l : List (Int × Int)) : (srtP l).Perm l := List.mergeSort_perm l _
theorem srtP_sorted (l : List (Int × Int)) : (srtP l).Pairwise fun a c => SrtO.lexB c a = false := by
  have h1 := List.pairwise_mergeSort (le := fun (a c : Int × Int) => !SrtO.lexB c a) (fun a b c h1 h2 => by
    have x := SrtO.lexB_no.mp (show SrtO.lexB b a = false by simpa using h1)
    have y := SrtO.lexB_no.mp (show SrtO.lexB c b = false by simpa using h2)
    have : SrtO.lexB c a = false := SrtO.lexB_no.mpr (by omega)
    simp [this]) (fun a b => by
    cases h : SrtO.lexB b a with
    | false => simp
    | true =>
      have x := SrtO.lexB_iff.mp h
      have : SrtO.lexB a b = false := SrtO.lexB_no.mpr (by omega)
      simp [this]) l
  exact h1.imp fun h => by simpa using h
theorem srtP_eq {l ys : List (Int × Int)} (p : ys.Perm l) (s : ys.Pairwise fun a c => SrtO.lexB c a = false) : ys = srtP l :=
  List.Perm.eq_of_pairwise (fun a b _ _ h1 h2 => lex_anti h2 h1) s (srtP_sorted l) (p.trans (srtP_perm l).symm)
def pW (p : Int × Int) : W := .tup [.int p.1, .int p.2]
def pairsOf : List W → Option (List (Int × Int))
  | [] => some []
  | .tup [.int i, .int j] :: r => (pairsOf r).map ((i, j) :: ·)
  | _ => none
theorem pairsOf_eq : ∀ {ws : List W} {l : List (Int × Int)}, pairsOf ws = some l → ws = l.map pW
  | [], l, e => by cases e; rfl
  | w :: ws, l, e => by
    unfold pairsOf at e
    split at e
    · rename_i h; cases h
    · rename_i i j r h
      cases h
      obtain ⟨m, em, rfl⟩ := Option.map_eq_some_iff.mp e
      rw [pairsOf_eq em]; rfl
    · cases e
theorem pairsOf_map : ∀ l : List (Int × Int), pairsOf (l.map pW) = some l
  | [] => rfl
  | p :: l => by
    show (pairsOf (l.map pW)).map ((p.1, p.2) :: ·) = _
    rw [pairsOf_map l]; rfl
def bSrtP (ws : List W) (h : MH) : R W := match ws with
  | [x] => match (lstW h x).bind pairsOf with
    | some l => .ok (.ref h.length) (h ++ [.lst ((srtP l).map pW)])
    | none => .stuck
  | _ => .stuck
section
variable {X : Cx} {Wx : WX}
theorem rl_pair {K : PySem.W.Frag} {b : Bs} {p : Int × Int} {v : V} (r : Rl K b (pW p) v) : ∃ t, v = .ref t ∧ SqT K b.H t [.int p.1, .int p.2] := by
  cases r with
  | tup a _ vs hs rr =>
    cases rr with
    | cons r1 rr => cases rr with
      | cons r2 rr =>
        cases rr; cases r1; cases r2
        exact ⟨a, rfl, hs⟩
open Classical in
theorem cs_sortedP : CallS X Wx (.builtin "sorted") bSrtP := ⟨fun pins s σ b h ws vs us Q I S r rv q => by
  unfold bSrtP at q
  split at q
  · rename_i x
    obtain ⟨v, rfl, r1⟩ := rls1 r
    split at q
    · rename_i l e
      obtain ⟨xs, e1, e2⟩ := Option.bind_eq_some_iff.mp e
      obtain ⟨a, ys, rfl, hs, rr⟩ := S.listW r1 e1
      have ex := pairsOf_eq e2
      subst ex
      let k : V → Int × Int := fun x => match x with
        | .ref t => if h : ∃ p : Int × Int, SqT X.K b.H t [.int p.1, .int p.2] then choose h else (0, 0)
        | _ => (0, 0)
      have key : ∀ (p : Int × Int) (y : V), Rl X.K b (pW p) y → k y = p := fun p y r => by
        obtain ⟨t, rfl, ht⟩ := rl_pair r
        have hx : ∃ p : Int × Int, SqT X.K b.H t [.int p.1, .int p.2] := ⟨p, ht⟩
        show (if h : ∃ p : Int × Int, SqT X.K b.H t [.int p.1, .int p.2] then choose h else (0, 0)) = p
        rw [dif_pos hx]
        have := I.tuple_inj (choose_spec hx) ht
        simp only [List.cons.injEq, V.int.injEq, and_true] at this
        exact Prod.ext this.1 this.2
      have all : ∀ {l : List (Int × Int)} {ys : List V}, Rls X.K b (l.map pW) ys → ys.map k = l ∧ ∀ y ∈ ys, Rl X.K b (pW (k y)) y := by
        intro l
        induction l with
        | nil => intro ys r; cases r; exact ⟨rfl, fun _ z => nomatch z⟩
        | cons p l ih =>
          intro ys r
          cases r with
          | cons r rr =>
            obtain ⟨i1, i2⟩ := ih rr
            have kp := key p _ r
            refine ⟨by rw [List.map_cons, kp, i1], fun y hy => ?_⟩
            rcases List.mem_cons.mp hy with z | z
            · subst z; rw [kp]; exact r
            · exact i2 y z
      obtain ⟨k1, k2⟩ := all rr
      refine cr_sortedPT pins s σ b.H _ us Q I rv ⟨a, ys, k, rfl, hs, fun y hy => ?_, fun zs p sz st hp => ?_⟩
      · obtain ⟨t, e, ht⟩ := rl_pair (k2 y hy)
        exact ⟨t, e, ht⟩
      · have pm : (zs.map k).Perm l := by rw [← k1]; exact st.perm.map k
        have so : (zs.map k).Pairwise fun a c => SrtO.lexB c a = false := List.pairwise_map.mpr (List.Pairwise.imp (fun h => h) sz)
        have eq := srtP_eq pm so
        have rz : Rls X.K b ((srtP l).map pW) zs := by
          rw [← eq, List.map_map]
          have sub : ∀ y ∈ zs, Rl X.K b (pW (k y)) y := fun y hy => k2 y (st.perm.mem_iff.mp hy)
          clear so eq pm st sz
          induction zs with
          | nil => exact .nil
          | cons z zs ih => exact .cons (sub z (.head _)) (ih fun y hy => sub y (.tail _ hy))
        exact Post.lst S rz q hp
    · exact q.elim
  · exact q.elim⟩
end
end PM
noncomputable section
namespace PM
open PySem PySem.Spec PyProof.Rows L2
variable {X : Cx} {Wx : WX}
/-- the flat membership where it speaks, else the deep one -/
def inG2 (neg : Bool) (x y : W) (h : MH) : R W := match inG neg x y h with
  | .stuck => inD neg x y h
  | r => r
theorem inG2_or (neg : Bool) (x y : W) (h : MH) : inG2 neg x y h = inG neg x y h ∨ inG2 neg x y h = inG neg x y h ∨ inG2 neg x y h = inD neg x y h := by
  unfold inG2
  split
  · exact .inr (.inr rfl)
  · exact .inl rfl
theorem os_in2 {k : Nat} (hr : Room (k + 8) X.A) : OpS X Wx (compareOp .In) (inG2 false) := os_byK os_in os_in (os_inD hr) (inG2_or false)
theorem os_notin2 {k : Nat} (hr : Room (k + 8) X.A) : OpS X Wx (compareOp .NotIn) (inG2 true) := os_byK os_notin os_notin (os_notinD hr) (inG2_or true)
/-- sorted: of integers where it speaks, else of pairs of integers -/
def bSrt2 (ws : List W) (h : MH) : R W := match bSrt ws h with
  | .stuck => bSrtP ws h
  | r => r
theorem cs_sorted2 (h1 : CallS X Wx (.builtin "sorted") bSrt) (h2 : CallS X Wx (.builtin "sorted") bSrtP) : CallS X Wx (.builtin "sorted") bSrt2 := ⟨fun pins s σ b h ws vs us Q I S r rv q => by
  have z : bSrt2 ws h = bSrt ws h ∨ bSrt2 ws h = bSrtP ws h := by
    unfold bSrt2
    split
    · exact .inr rfl
    · exact .inl rfl
  rcases z with z | z
  · exact h1.run pins s σ b h ws vs us Q I S r rv (by rw [← z]; exact q)
  · exact h2.run pins s σ b h ws vs us Q I S r rv (by rw [← z]; exact q)⟩
end PM
/-! Sm52: statements by what holds at their ends. -/
noncomputable section
namespace PM
open PySem L2
structure En where
  nx : MS → MH → Prop
  rt : W → MH → Prop := fun _ _ => False
  ct : MS → MH → Prop := fun _ _ => False
  bk : MS → MH → Prop := fun _ _ => False
  exc : Xn → MH → Prop := fun _ _ => False
def RS.endsB (r : RS) (E : En) : Prop := match r with
  | .nx σ h => E.nx σ h
  | .rt w h => E.rt w h
  | .ct σ h => E.ct σ h
  | .bk σ h => E.bk σ h
  | .exc x _ h => E.exc x h
  | .stuck => False
structure RS.ends (r : RS) (E : En) : Prop where
  out : r.endsB E
def Then (n : SM) (E : En) : MS → MH → Prop := fun σ h => (n σ h).ends E
theorem then_i {n : SM} {E : En} {σ : MS} {h : MH} (q : (n σ h).ends E) : Then n E σ h := q
section
variable {σ : MS} {h g l : MH} {E : En}
theorem e_nx : (RS.nx σ h).ends E ↔ E.nx σ h := ⟨fun q => q.out, fun q => ⟨q⟩⟩
theorem e_rt {w : W} : (RS.rt w h).ends E ↔ E.rt w h := ⟨fun q => q.out, fun q => ⟨q⟩⟩
theorem e_ct : (RS.ct σ h).ends E ↔ E.ct σ h := ⟨fun q => q.out, fun q => ⟨q⟩⟩
theorem e_bk : (RS.bk σ h).ends E ↔ E.bk σ h := ⟨fun q => q.out, fun q => ⟨q⟩⟩
theorem e_exc {x : Xn} : (RS.exc x σ h).ends E ↔ E.exc x h := ⟨fun q => q.out, fun q => ⟨q⟩⟩
theorem ends_seq {m n : SM} (q : (m σ h).ends { E with nx := Then n E }) : (sSeq m n σ h).ends E := by
  unfold sSeq
  generalize m σ h = r at q
  cases r with
  | nx σ' h' => exact q.out
  | _ => exact ⟨q.out⟩
theorem RS.ends.mono {r : RS} {E F : En} (q : r.ends E) (h1 : ∀ σ h, E.nx σ h → F.nx σ h) (h2 : ∀ w h, E.rt w h → F.rt w h) (h3 : ∀ σ h, E.ct σ h → F.ct σ h) (h4 : ∀ σ h, E.bk σ h → F.bk σ h) (h5 : ∀ x h, E.exc x h → F.exc x h) : r.ends F := by
  cases r with
  | nx σ h => exact ⟨h1 _ _ q.out⟩
  | rt w h => exact ⟨h2 _ _ q.out⟩
  | ct σ h => exact ⟨h3 _ _ q.out⟩
  | bk σ h => exact ⟨h4 _ _ q.out⟩
  | exc x σ h => exact ⟨h5 _ _ q.out⟩
  | stuck => exact q.out.elim
/-- a statement that sets one name -/
theorem ends_upd (j : Nat) {m : SM} (P : W → MH → Prop) (h1 : (m σ h).ends { E with nx := fun σ' h' => ∃ w, P w h' ∧ σ' = σ.set j (some w) }) (h2 : ∀ w h', P w h' → E.nx (σ.set j (some w)) h') : (m σ h).ends E :=
  h1.mono (fun σ' h' ⟨w, p, e⟩ => e ▸ h2 w h' p) (fun _ _ q => q) (fun _ _ q => q) (fun _ _ q => q) (fun _ _ q => q)
theorem ends_try {tb : ExT} {ks : List HkM} {body : SM} (q : (body σ h).ends { E with exc := fun x g => ∀ σ1, σ1.length = σ.length → (hkGo tb ks x σ1 g).ends E }) (hl : ∀ x σ1 g, body σ h = .exc x σ1 g → σ1.length = σ.length) : (sTry tb ks body σ h).ends E := by
  unfold sTry
  generalize e : body σ h = r at q
  cases r with
  | exc x σ1 g => exact q.out σ1 (hl x σ1 g e)
  | nx σ1 g => exact ⟨q.out⟩
  | rt w g => exact ⟨q.out⟩
  | ct σ1 g => exact ⟨q.out⟩
  | bk σ1 g => exact ⟨q.out⟩
  | stuck => exact q.out.elim
theorem ends_ret {m : EM} (q : ((m σ h).st σ fun w h1 => RS.rt w h1).ends E) : (sRet m σ h).ends E := q
/-- a loop -/
theorem ends_for {α : Type} {mi : MI} {tg : GM} {body : SM} {n : Nat} (xs : List α) (φ : α → W) (I : Nat → MS → MH → Prop) (hf : n = xs.length) (hw : ∀ i σ h, I i σ h → mi.nx i h = some (xs[i]?.map φ)) (h0 : I 0 σ h)
    (step : ∀ i a σ h, xs[i]? = some a → I i σ h → ∃ σ1, tg (φ a) σ h = some σ1 ∧ (body σ1 h).ends ⟨I (i + 1), E.rt, I (i + 1), E.nx, E.exc⟩)
    (last : ∀ σ h, I xs.length σ h → E.nx σ h) : (forGo mi tg body n 0 σ h).ends E := by
  have key : ∀ (f i : Nat) (σ : MS) (h : MH), i + f = xs.length → I i σ h → (forGo mi tg body f i σ h).ends E := by
    intro f
    induction f with
    | zero =>
      intro i σ h e hI
      have e1 : i = xs.length := by omega
      subst e1
      unfold forGo
      rw [hw _ σ h hI]
      rw [List.getElem?_eq_none (Nat.le_refl _)]
      simp only [Option.map_none]
      exact ⟨last _ _ hI⟩
    | succ f ih =>
      intro i σ h e hI
      have lt : i < xs.length := by omega
      have ea : xs[i]? = some xs[i] := List.getElem?_eq_getElem lt
      obtain ⟨σ1, s1, s2⟩ := step i _ σ h ea hI
      unfold forGo
      rw [hw _ σ h hI, ea]
      simp only [Option.map_some, s1]
      generalize body σ1 h = r at s2
      cases r with
      | nx σ2 h2 => exact ih (i + 1) σ2 h2 (by omega) s2.out
      | ct σ2 h2 => exact ih (i + 1) σ2 h2 (by omega) s2.out
      | bk σ2 h2 => exact ⟨s2.out⟩
      | rt w h2 => exact ⟨s2.out⟩
      | exc x σ2 h2 => exact ⟨s2.out⟩
      | stuck => exact s2.out.elim
  rw [hf]
  exact key xs.length 0 σ h (by omega) h0
/-- a loop over a range -/
theorem ends_rng {lo : Int} {n : Nat} {tg : GM} {body : SM} (I : Nat → MS → MH → Prop) (h0 : I 0 σ h)
    (step : ∀ i σ h, i < n → I i σ h → ∃ σ1, tg (.int (lo + i)) σ h = some σ1 ∧ (body σ1 h).ends ⟨I (i + 1), E.rt, I (i + 1), E.nx, E.exc⟩)
    (last : ∀ σ h, I n σ h → E.nx σ h) {f : Nat} (hf : f = n := by rfl) : (forGo (itR lo n) tg body f 0 σ h).ends E := by
  subst f
  refine ends_for (List.range n) (fun i => .int (lo + i)) I (by simp) (fun i σ h _ => ?_) h0 (fun i a σ h ha hI => ?_) (by simpa using last)
  · show (if i < n then _ else _) = _
    by_cases e : i < n <;> simp [e]
  · obtain ⟨lt, e⟩ := List.getElem?_eq_some_iff.mp ha
    simp at e lt
    subst e
    exact step _ σ h lt hI
theorem ends_while {t : TM} {body : SM} (I : Nat → MS → MH → Prop) (n f : Nat) (hf : n < f) (h0 : I n σ h)
    (step : ∀ n σ h, I n σ h → ∃ k h1, t σ h = .ok k h1 ∧ if k = true then (body σ h1).ends ⟨fun σ h => ∃ m, m < n ∧ I m σ h, E.rt, fun σ h => ∃ m, m < n ∧ I m σ h, E.nx, E.exc⟩ else E.nx σ h1) : (whGo t body f σ h).ends E := by
  induction f generalizing n σ h with
  | zero => omega
  | succ f ih =>
    obtain ⟨k, h1, e, s⟩ := step n σ h h0
    unfold whGo
    rw [e]
    simp only [R.st]
    cases k with
    | false => exact ⟨s⟩
    | true =>
      simp only [if_true] at s ⊢
      generalize body σ h1 = r at s
      cases r with
      | nx σ2 h2 => obtain ⟨m, hm, hI⟩ := s.out; exact ih m (by omega) hI
      | ct σ2 h2 => obtain ⟨m, hm, hI⟩ := s.out; exact ih m (by omega) hI
      | bk σ2 h2 => exact ⟨s.out⟩
      | rt w h2 => exact ⟨s.out⟩
      | exc x σ2 h2 => exact ⟨s.out⟩
      | stuck => exact s.out.elim
/-- the ends of a def -/
def fnE (Q : R W → Prop) : En := ⟨fun _ h => Q (.ok .non h), fun w h => Q (.ok w h), fun _ _ => False, fun _ _ => False, fun x h => Q (.exc x h)⟩
theorem mkF_ends {np n : Nat} {body : SM} {ws : List W} {σ : MS} (Q : R W → Prop) (q : (body σ h).ends (fnE Q)) (hl : ws.length = np := by rfl) (hs : ws.map some ++ List.replicate (n - np) none = σ := by rfl) : Q (mkF np n body ws h) := by
  subst hs
  unfold mkF
  rw [if_pos hl]
  generalize body _ h = r at q
  cases r with
  | ct σ g => exact q.out.elim
  | bk σ g => exact q.out.elim
  | stuck => exact q.out.elim
  | _ => exact q.out
theorem fz_ends {np n : Nat} {body : SM} {ws : List W} {σ : MS} (Q : R W → Prop) (q : (body σ h).ends (fnE fun r => Q (fin h r))) (hl : ws.length = np := by rfl) (hs : ws.map some ++ List.replicate (n - np) none = σ := by rfl) : Q (fz (mkF np n body) ws h) := mkF_ends (fun r => Q (fin h r)) q hl hs
theorem fz_eq {np n : Nat} {body : SM} {ws : List W} {σ : MS} {r : R W} {Q : R W → Prop} (e : fz (mkF np n body) ws h = r) (q : (body σ h).ends (fnE fun r => Q (fin h r))) (hl : ws.length = np := by rfl) (hs : ws.map some ++ List.replicate (n - np) none = σ := by rfl) : Q r := by
  subst e
  exact fz_ends Q q hl hs
theorem fn_eq {np n : Nat} {body : SM} {ws : List W} {σ : MS} {r : R W} {Q : R W → Prop} (e : mkF np n body ws h = r) (q : (body σ h).ends (fnE Q)) (hl : ws.length = np := by rfl) (hs : ws.map some ++ List.replicate (n - np) none = σ := by rfl) : Q r := by
  subst e
  exact mkF_ends Q q hl hs
theorem fn_rt {Q : R W → Prop} {w : W} : (fnE Q).rt w h ↔ Q (.ok w h) := Iff.rfl
theorem fn_exc {Q : R W → Prop} {x : Xn} : (fnE Q).exc x h ↔ Q (.exc x h) := Iff.rfl
theorem fn_nx {Q : R W → Prop} : (fnE Q).nx σ h ↔ Q (.ok .non h) := Iff.rfl
theorem nx_then {n : SM} : Then n E σ h ↔ (n σ h).ends E := Iff.rfl
/-- an answer that holds -/
structure R.sat {α : Type} (r : R α) (Q : α → MH → Prop) : Prop where
  get : ∃ a h, r = .ok a h ∧ Q a h
/-- a comprehension that draws -/
theorem sat_lc {α : Type} {mi : MI} {tg : GM} {t : TM} {e : EM} {j : Nat} {Q : W → MH → Prop} (xs : List α) (φ : α → W) (I : Nat → List W → MH → Prop) (hf : mi.fuel = xs.length) (hw : ∀ i acc h, I i acc h → mi.nx i h = some (xs[i]?.map φ)) (hz : xs.length ≤ sizeLine)
    (hm : ∀ i acc h, I i acc h → mutAt h j = some acc ∧ acc.length ≤ i) (h0 : I 0 [] h)
    (step : ∀ i a acc h, xs[i]? = some a → I i acc h → ∃ σ1, tg (φ a) σ h = some σ1 ∧ ∃ k h1, t σ1 h = .ok k h1 ∧ if k = true then ∃ y h2, e σ1 h1 = .ok y h2 ∧ mutAt h2 j = some acc ∧ I (i + 1) (acc ++ [y]) (h2.set j (.lst (acc ++ [y]))) else I (i + 1) acc h1)
    (last : ∀ acc h, I xs.length acc h → Q (.ref j) h) : (lcGo mi tg t e σ j mi.fuel 0 h).sat Q := by
  have key : ∀ (f i : Nat) (acc : List W) (h : MH), i + f = xs.length → I i acc h → (lcGo mi tg t e σ j f i h).sat Q := by
    intro f
    induction f with
    | zero =>
      intro i acc h e hI
      have e1 : i = xs.length := by omega
      subst e1
      unfold lcGo
      rw [hw _ acc h hI]
      rw [List.getElem?_eq_none (Nat.le_refl _)]
      simp only [Option.map_none]
      exact ⟨_, _, rfl, last _ _ hI⟩
    | succ f ih =>
      intro i acc h e1 hI
      have lt : i < xs.length := by omega
      have ea : xs[i]? = some xs[i] := List.getElem?_eq_getElem lt
      obtain ⟨σ1, s1, k, h1, s2, s3⟩ := step i _ acc h ea hI
      unfold lcGo
      rw [hw _ acc h hI, ea]
      simp only [Option.map_some, s1, s2, R.nox, R.bind]
      cases k with
      | false => exact ih (i + 1) acc h1 (by omega) s3
      | true =>
        simp only [if_true] at s3 ⊢
        obtain ⟨y, h2, s4, s5, s6⟩ := s3
        have := (hm i acc h hI).2
        simp only [s4, R.nox, R.bind, s5]
        rw [if_pos (show acc.length < sizeLine by omega)]
        exact ih (i + 1) _ _ (by omega) s6
  rw [hf]
  exact key xs.length 0 [] h (by omega) h0
end
end PM
/-! Sm53: isinstance of anything by a tuple of classes of any kind. -/
noncomputable section
namespace PM
open PySem PySem.Spec L2
def isAnyK (tb : IsT) (t : Kd) : List Kd → Option Bool
  | [] => some false
  | c :: r => match isT tb t c with
    | some true => some true
    | some false => isAnyK tb t r
    | none => none
theorem isAnyK_ok {K : PySem.W.Frag} {tb : IsT} {t : Kd} (hT : TbOk K tb) : ∀ {cs : List Kd} {r : Bool}, isAnyK tb t cs = some r → PySem.W.kitAny K (t.v K) (cs.map (Kd.v K)) = some r
  | [], r, e => by cases e; rfl
  | c :: cs, r, e => by
    unfold isAnyK at e
    split at e
    · rename_i e1; cases e; exact kitAny_cons (isT_ok hT e1) (fun z => nomatch z) (fun _ => rfl)
    · rename_i e1; exact kitAny_cons (isT_ok hT e1) (fun _ => isAnyK_ok hT e) (fun z => nomatch z)
    · cases e
theorem cds_ok {K : PySem.W.Frag} {b : Bs} : ∀ {ws : List W} {vs : List V} {ns : List Kd}, Rls K b ws vs → mapO cdW ws = some ns → Paired ClsV vs (ns.map (Kd.v K))
  | _, _, ns, .nil, e => by cases e; exact .nil
  | w :: ws, _, ns, .cons r1 rr, e => by
    rw [mapO_cons] at e
    obtain ⟨c, e1, e2⟩ := Option.bind_eq_some_iff.mp e
    obtain ⟨ms, e3, e4⟩ := Option.bind_eq_some_iff.mp e2
    cases e4
    refine .cons ?_ (cds_ok rr e3)
    cases r1 with
    | ty n => cases e1; exact .ty n
    | glo C => cases e1; exact .own _
    | _ => cases e1
def bIsA (cs : List Str) (tb : IsT) (ws : List W) (h : MH) : R W := match ws with
  | [w, .tup l] => match kdW w h, mapO cdW l with
    | some t, some ds => if t.inC cs = true then match isAnyK tb t ds with
      | some r => .ok (.bl r) h
      | none => .stuck else .stuck
    | _, _ => .stuck
  | ws => bIsO cs tb ws h
section
variable {X : Cx} {Wx : WX}
theorem cs_isAT {cs : List Str} {tb : IsT} (hc : ∀ C ∈ cs, OwnC X.K C) (hT : TbOk X.K tb) : CallS X Wx (.builtin "isinstance") (fun ws h => match ws with
  | [w, .tup l] => match kdW w h, mapO cdW l with
    | some t, some ds => if t.inC cs = true then match isAnyK tb t ds with
      | some r => .ok (.bl r) h
      | none => .stuck else .stuck
    | _, _ => .stuck
  | _ => .stuck) := .of (callR_or call_isi (callR_or call_isiT (callR_or call_isiF call_isiK))) fun σ b h ws vs Q S r q => by
  split at q
  · rename_i w l
    obtain ⟨v, y, rfl, r1, r2⟩ := rls2 r
    cases r2 with
    | tup a _ us hs rr =>
      split at q
      · rename_i t ds et ed
        by_cases hi : t.inC cs = true
        case neg => rw [if_neg hi] at q; exact q.elim
        rw [if_pos hi] at q
        split at q
        · rename_i k hk
          have ty := tyX_kd hc S r1 et (Kd.inC_ok hi)
          have p := cds_ok rr ed
          have e3 := isAnyK_ok hT hk
          rcases sqT_K hs with hs | ⟨o, hs⟩ | ⟨o, its, n, l1, l2, l3, l4⟩
          · exact .inr (.inl ⟨v, a, us, t.v X.K, _, k, rfl, hs, p, ty, e3, q.here S (.bl _)⟩)
          · exact .inr (.inr (.inl ⟨v, a, o, us, t.v X.K, _, k, rfl, hs, p, ty, e3, q.here S (.bl _)⟩))
          · have e4 := ClsV.all p l4
            obtain ⟨oc, od, dt, sl⟩ := o
            simp only at l2 l3
            subst l2 l3
            refine .inr (.inr (.inr ⟨v, a, od, ds.map (Kd.v X.K), n, sl, t.v X.K, k, rfl, ?_, ty, e3, q.here S (.bl _)⟩))
            rw [l1, ← e4]
        · exact q.elim
      · exact q.elim
  · exact q.elim
theorem cs_isA {cs : List Str} {tb : IsT} (hc : ∀ C ∈ cs, OwnC X.K C) (hT : TbOk X.K tb) : CallS X Wx (.builtin "isinstance") (bIsA cs tb) := ⟨fun pins s σ b h ws vs us Q I S r rv q => by
  unfold bIsA at q
  split at q
  · rename_i w l
    exact (cs_isAT hc hT).run pins s σ b h _ vs us Q I S r rv q
  · exact (cs_isO hc hT).run pins s σ b h _ vs us Q I S r rv q⟩
end
end PM
/-! Sm54: plain things of a Lean type as values. -/
noncomputable section
namespace PM
open PySem L2
class Py (α : Type) where
  enc : α → W
  dat : α → PyData
  dep : Nat
  ok : α → Prop
  data : ∀ (h : MH) (n : Nat) (a : α), dep ≤ n → dataW h n (enc a) = some (dat a)
  lay : ∀ a, ok a → (dat a).canLay0 = true
  depth : ∀ a, (dat a).depth ≤ dep
  eqv : ∀ a b, (dat a).eqv (dat b) = true ↔ a = b
  cls : ∀ n a, Cls n (enc a)
instance : Py Int := ⟨.int, .int, 0, fun _ => True, fun h n a _ => by cases n <;> rfl, fun _ _ => rfl, fun _ => by simp [PyData.depth], fun a b => by simp [PyData.eqv], fun _ _ => .int _⟩
instance : Py Bool := ⟨.bl, .bool, 0, fun _ => True, fun h n a _ => by cases n <;> rfl, fun _ _ => rfl, fun _ => by simp [PyData.depth], fun a b => by simp [PyData.eqv], fun _ _ => .bl _⟩
instance : Py Str := ⟨.str, .str, 0, Cp, fun h n a _ => by cases n <;> rfl, fun a h => by simpa [PyData.canLay0] using h.ok, fun _ => by simp [PyData.depth], fun a b => by simp [PyData.eqv], fun _ _ => .str _⟩
def oSt (o : Option Str) : W := match o with
  | some x => .str x
  | none => .non
instance : Py (Option Str) := ⟨oSt, fun o => match o with
  | some x => .str x
  | none => .none, 0, fun o => ∀ x, o = some x → Cp x, fun h n a _ => by cases a <;> cases n <;> rfl, fun a h => by
    cases a with
    | none => rfl
    | some x => simpa [PyData.canLay0] using (h x rfl).ok, fun a => by cases a <;> simp [PyData.depth], fun a b => by cases a <;> cases b <;> simp [PyData.eqv], fun _ a => by cases a <;> constructor⟩
theorem Py.mapO {α : Type} [Py α] (h : MH) (n : Nat) (hn : dep α ≤ n) : ∀ xs : List α, PM.mapO (dataW h n) (xs.map enc) = some (xs.map dat)
  | [] => rfl
  | x :: xs => by
    rw [List.map_cons, mapO_cons, Py.data h n x hn, Py.mapO h n hn xs]; rfl
theorem Py.layAll {α : Type} [Py α] : ∀ xs : List α, (∀ x ∈ xs, ok x) → PyData.canLayAll0 (xs.map dat) = true
  | [], _ => rfl
  | x :: xs, h => by
    simp only [List.map_cons, PyData.canLayAll0, Py.lay x (h x (.head _)), Py.layAll xs fun y hy => h y (.tail _ hy), Bool.and_self]
theorem Py.depthAll {α : Type} [Py α] : ∀ xs : List α, PyData.depthAll (xs.map dat) ≤ dep α
  | [] => by simp [PyData.depthAll]
  | x :: xs => by
    simp only [List.map_cons, PyData.depthAll]
    exact Nat.max_le.mpr ⟨Py.depth x, Py.depthAll xs⟩
theorem Py.eqvAll {α : Type} [Py α] : ∀ xs ys : List α, PyData.eqvAll (xs.map dat) (ys.map dat) = true ↔ xs = ys
  | [], [] => by simp [PyData.eqvAll]
  | [], y :: ys => by simp [PyData.eqvAll]
  | x :: xs, [] => by simp [PyData.eqvAll]
  | x :: xs, y :: ys => by simp [PyData.eqvAll, Py.eqv x y, Py.eqvAll xs ys]
instance {α : Type} [Py α] : Py (List α) := ⟨fun xs => .vl (xs.map Py.enc), fun xs => .list (xs.map Py.dat), Py.dep α + 1, fun xs => ∀ x ∈ xs, Py.ok x, fun h n a hn => by
    cases n with
    | zero => omega
    | succ n => simp [dataW, Py.mapO h n (by omega) a], fun a h => by simpa [PyData.canLay0] using Py.layAll a h, fun a => by
    have := Py.depthAll a
    simp only [PyData.depth]
    omega, fun a b => by simp only [PyData.eqv]; exact Py.eqvAll a b, fun n a => .vl _ fun x hx => by
    obtain ⟨y, _, rfl⟩ := List.mem_map.mp hx
    exact Py.cls n y⟩
instance {α β : Type} [Py α] [Py β] : Py (α × β) := ⟨fun p => .tup [Py.enc p.1, Py.enc p.2], fun p => .tuple [Py.dat p.1, Py.dat p.2], Py.dep α + Py.dep β + 1, fun p => Py.ok p.1 ∧ Py.ok p.2, fun h n a hn => by
    cases n with
    | zero => omega
    | succ n => simp [dataW, Py.data h n a.1 (by omega), Py.data h n a.2 (by omega)], fun a h => by simp [PyData.canLay0, PyData.canLayAll0, Py.lay _ h.1, Py.lay _ h.2], fun a => by
    have h1 := Py.depth a.1
    have h2 := Py.depth a.2
    simp only [PyData.depth, PyData.depthAll]
    omega, fun a b => by
    obtain ⟨a1, a2⟩ := a
    obtain ⟨b1, b2⟩ := b
    simp [PyData.eqv, PyData.eqvAll, Py.eqv], fun n a => .tup _ fun x hx => by
    simp only [List.mem_cons, List.not_mem_nil, or_false] at hx
    rcases hx with rfl | rfl <;> exact Py.cls n _⟩
/-- a tuple of things of one type -/
structure Tu (α : Type) where
  l : List α
deriving DecidableEq
instance {α : Type} [Py α] : Py (Tu α) := ⟨fun xs => .tup (xs.l.map Py.enc), fun xs => .tuple (xs.l.map Py.dat), Py.dep α + 1, fun xs => ∀ x ∈ xs.l, Py.ok x, fun h n a hn => by
    cases n with
    | zero => omega
    | succ n => simp [dataW, Py.mapO h n (by omega) a.l], fun a h => by simpa [PyData.canLay0] using Py.layAll a.l h, fun a => by
    have := Py.depthAll a.l
    simp only [PyData.depth]
    omega, fun a b => by
    obtain ⟨a⟩ := a
    obtain ⟨b⟩ := b
    simp only [PyData.eqv, Tu.mk.injEq]
    exact Py.eqvAll a b, fun n a => .tup _ fun x hx => by
    obtain ⟨y, _, rfl⟩ := List.mem_map.mp hx
    exact Py.cls n y⟩
section
variable {α : Type} [Py α] {h : MH}
theorem Py.shaped (a : α) (o : ok a) (d : dep α ≤ 20) : SeqAt.shaped (dat a) = true := by
  have := Py.depth a
  unfold SeqAt.shaped
  rw [Py.lay a o, Bool.true_and, decide_eq_true_iff]
  omega
variable [DecidableEq α]
theorem Py.eq (a b : α) (oa : ok a) (ob : ok b) (d : dep α ≤ 20) (hf : eqFlat (enc a) (enc b) = none) : bEq (enc a) (enc b) h = .ok (.bl (decide (a = b))) h := by
  rw [eq_of_data hf (Py.data h 20 a d) (Py.data h 20 b d) (Py.shaped a oa d) (Py.shaped b ob d)]
  congr 2
  rw [Bool.eq_iff_iff, decide_eq_true_iff]
  exact Py.eqv a b
theorem Py.ne (a b : α) (oa : ok a) (ob : ok b) (d : dep α ≤ 20) (hf : eqFlat (enc a) (enc b) = none) : bNe (enc a) (enc b) h = .ok (.bl (!decide (a = b))) h := by
  rw [ne_of_data hf (Py.data h 20 a d) (Py.data h 20 b d) (Py.shaped a oa d) (Py.shaped b ob d)]
  congr 3
  rw [Bool.eq_iff_iff, decide_eq_true_iff]
  exact Py.eqv a b
theorem eq_list (xs ys : List α) (o1 : ∀ x ∈ xs, Py.ok x) (o2 : ∀ x ∈ ys, Py.ok x) (d : Py.dep α ≤ 19 := by decide) : bEq (.vl (xs.map Py.enc)) (.vl (ys.map Py.enc)) h = .ok (.bl (decide (xs = ys))) h := Py.eq (α := List α) xs ys o1 o2 (Nat.succ_le_succ d) rfl
theorem ne_list (xs ys : List α) (o1 : ∀ x ∈ xs, Py.ok x) (o2 : ∀ x ∈ ys, Py.ok x) (d : Py.dep α ≤ 19 := by decide) : bNe (.vl (xs.map Py.enc)) (.vl (ys.map Py.enc)) h = .ok (.bl (!decide (xs = ys))) h := Py.ne (α := List α) xs ys o1 o2 (Nat.succ_le_succ d) rfl
/-- whatever can be compared is equal to itself -/
theorem ne_self {w : W} {d : PyData} (hf : eqFlat w w = none) (e : dataW h 20 w = some d) (s : SeqAt.shaped d = true) (r : PyData.eqv d d = true) : bNe w w h = .ok (.bl false) h := by
  rw [ne_of_data hf e e s s, r]; rfl
end
mutual
theorem eqv_self : ∀ d : PyData, d.canLay0 = true → PyData.eqv d d = true
  | .none, _ => by simp [PyData.eqv]
  | .bool _, _ => by simp [PyData.eqv]
  | .int _, _ => by simp [PyData.eqv]
  | .str _, _ => by simp [PyData.eqv]
  | .list xs, h => by simp only [PyData.eqv]; exact eqvAll_self xs (by simpa [PyData.canLay0] using h)
  | .tuple xs, h => by simp only [PyData.eqv]; exact eqvAll_self xs (by simpa [PyData.canLay0] using h)
  | .dict _, h => by simp [PyData.canLay0] at h
theorem eqvAll_self : ∀ xs : List PyData, PyData.canLayAll0 xs = true → PyData.eqvAll xs xs = true
  | [], _ => by simp [PyData.eqvAll]
  | x :: xs, h => by
    have h' : x.canLay0 = true ∧ PyData.canLayAll0 xs = true := by simpa [PyData.canLayAll0] using h
    simp [PyData.eqvAll, eqv_self x h'.1, eqvAll_self xs h'.2]
end
end PM
/-! Sm55: freezing step by step. -/
noncomputable section
namespace PM
open PySem L2
section
variable {h g l : MH} {k n : Nat}
theorem frz_l {xs : List W} (s : Stp h g) (el : l[k]? = some (.lst xs)) : fzW (g ++ l) h.length (g ++ l).length (n + 1) (.ref (h.length + k)) = (mapO (fzW (g ++ l) h.length (g ++ l).length n) xs).map .vl := by
  conv => lhs; unfold fzW
  rw [if_neg (by simp)]
  dsimp only
  have lt := (List.getElem?_eq_some_iff.mp el).1
  rw [if_neg (by rw [List.length_append, s.len]; omega), List.getElem?_append_right (by rw [s.len]; omega), s.len, Nat.add_sub_cancel_left, el]
theorem frz_d {kvs : List (Key × W)} (s : Stp h g) (el : l[k]? = some (.dct kvs)) : fzW (g ++ l) h.length (g ++ l).length (n + 1) (.ref (h.length + k)) = (mapV (fzW (g ++ l) h.length (g ++ l).length n) kvs).map .vd := by
  conv => lhs; unfold fzW
  rw [if_neg (by simp)]
  dsimp only
  have lt := (List.getElem?_eq_some_iff.mp el).1
  rw [if_neg (by rw [List.length_append, s.len]; omega), List.getElem?_append_right (by rw [s.len]; omega), s.len, Nat.add_sub_cancel_left, el]
theorem frz_i {C : Str} {fs : List (Str × W)} (s : Stp h g) (el : l[k]? = some (.ins C fs)) : fzW (g ++ l) h.length (g ++ l).length (n + 1) (.ref (h.length + k)) = (mapV (fzW (g ++ l) h.length (g ++ l).length n) fs).map (.vi C) := by
  conv => lhs; unfold fzW
  rw [if_neg (by simp)]
  dsimp only
  have lt := (List.getElem?_eq_some_iff.mp el).1
  rw [if_neg (by rw [List.length_append, s.len]; omega), List.getElem?_append_right (by rw [s.len]; omega), s.len, Nat.add_sub_cancel_left, el]
/-- a new list of which one thing is a new list -/
theorem fin_l2 {ys xs : List W} {j : Nat} (s : Stp h g) (e1 : l[k]? = some (.lst (ys ++ [.ref (h.length + j)]))) (e2 : l[j]? = some (.lst xs)) (c1 : ∀ y ∈ ys, Cls h.length y) (c2 : ∀ x ∈ xs, Cls h.length x) : fin h (.ok (.ref (h.length + k)) (g ++ l)) = .ok (.vl (ys ++ [.vl xs])) g := by
  refine fin_of s l _ _ ?_
  rw [frz_l s e1]
  have a : ∀ ys : List W, (∀ y ∈ ys, Cls h.length y) → mapO (fzW (g ++ l) h.length (g ++ l).length 19) (ys ++ [.ref (h.length + j)]) = some (ys ++ [.vl xs]) := fun ys => by
    induction ys with
    | nil =>
      intro _
      rw [List.nil_append, mapO_cons, frz_l s e2, fzW_cls_l c2]
      rfl
    | cons y ys ih =>
      intro c
      rw [List.cons_append, mapO_cons, fzW_cls (c y (.head _)), ih fun z hz => c z (.tail _ hz)]
      rfl
  rw [a ys c1]
  rfl
theorem own_i {C : Str} {fs : List (Str × W)} (s : Stp h g) (el : l[k]? = some (.ins C fs)) (hc : ∀ x ∈ fs, Cls h.length x.2) : own h (.ok (.ref (h.length + k)) (g ++ l)) = .ok (.ref h.length) (g ++ [.ins C fs]) := by
  unfold own
  dsimp only
  have lt := (List.getElem?_eq_some_iff.mp el).1
  rw [if_pos ⟨s.old l, Nat.le_add_right _ _⟩, List.getElem?_append_right (by rw [s.len]; omega), s.len, Nat.add_sub_cancel_left, el]
  dsimp only
  have e : fzO (g ++ l) h.length (h.length + k) (.ins C fs) = some (.ins C fs) := by
    show Option.map (Ob.ins C) (mapV _ fs) = _
    rw [fzW_cls_d hc]; rfl
  rw [e]
  dsimp only
  rw [s.take]
theorem owa_eq {np n : Nat} {body : SM} {ws : List W} {σ : MS} {r : R W} {Q : R W → Prop} (e : owa (mkF np n body) ws h = r) (q : (body σ h).ends (fnE fun r => Q (ownA h r))) (hl : ws.length = np := by rfl) (hs : ws.map some ++ List.replicate (n - np) none = σ := by rfl) : Q r := by
  subst e
  exact mkF_ends (fun r => Q (ownA h r)) q hl hs
theorem ownA_new {xs : List W} (s : Stp h g) (hc : ∀ x ∈ xs, Cls h.length x) : ownA h (.ok (.ref g.length) (g ++ [.lst xs])) = .ok (.ref h.length) (g ++ [.lst xs]) := by
  unfold ownA
  dsimp only
  rw [if_pos (by rw [s.len]; exact Nat.le_refl _), s.len]
  exact own_l (k := 0) (l := [.lst xs]) s rfl hc
end
end PM
/-! Sm56: repr of data that is not too great. -/
noncomputable section
namespace PM
open PySem L2
theorem repr_data {w : W} {d : PyData} {h : MH} (e : dataW h 20 w = some d) (l : d.canLay0 = true) (ls : d.leavesShort 30 = true) (sh : d.showable = true) (wt : d.weight ≤ 400000) (dp : d.depth ≤ 60) : bRepr [w] h = .ok (.str d.shown) h := by
  have z := PyData.shown_le 30 (by omega) d ls
  unfold bRepr
  dsimp only
  rw [e]
  dsimp only
  rw [if_pos ⟨sh, PyData.hasDict_of_canLay d l, dp, by rw [line_eq]; omega⟩]
theorem weight_all (k : Nat) : ∀ {xs : List PyData}, (∀ x ∈ xs, x.weight ≤ k) → PyData.weightAll xs ≤ xs.length * (k + 1)
  | [], _ => by simp [PyData.weightAll]
  | x :: xs, h => by
    have h1 := h x (.head _)
    have h2 := weight_all k fun y hy => h y (.tail _ hy)
    simp only [PyData.weightAll, List.length_cons, Nat.succ_mul]
    omega
theorem leaves_all {B : Nat} : ∀ {xs : List PyData}, (∀ x ∈ xs, x.leavesShort B = true) → PyData.leavesShortAll B xs = true
  | [], _ => rfl
  | x :: xs, h => by
    simp only [PyData.leavesShortAll, h x (.head _), leaves_all fun y hy => h y (.tail _ hy), Bool.and_self]
theorem show_all : ∀ {xs : List PyData}, (∀ x ∈ xs, x.showable = true) → PyData.showableAll xs = true
  | [], _ => rfl
  | x :: xs, h => by
    simp only [PyData.showableAll, h x (.head _), show_all fun y hy => h y (.tail _ hy), Bool.and_self]
theorem lay_all : ∀ {xs : List PyData}, (∀ x ∈ xs, x.canLay0 = true) → PyData.canLayAll0 xs = true
  | [], _ => rfl
  | x :: xs, h => by
    simp only [PyData.canLayAll0, h x (.head _), lay_all fun y hy => h y (.tail _ hy), Bool.and_self]
theorem depth_all {k : Nat} : ∀ {xs : List PyData}, (∀ x ∈ xs, x.depth ≤ k) → PyData.depthAll xs ≤ k
  | [], _ => by simp [PyData.depthAll]
  | x :: xs, h => by
    simp only [PyData.depthAll]
    exact Nat.max_le.mpr ⟨h x (.head _), depth_all fun y hy => h y (.tail _ hy)⟩
/-- data that can be shown -/
structure Rp (k n : Nat) (d : PyData) : Prop where
  lay : d.canLay0 = true
  lf : d.leavesShort 30 = true
  sh : d.showable = true
  wt : d.weight ≤ k
  dp : d.depth ≤ n
theorem Rp.str {x : Str} (c : Cp x) {k n : Nat} (h : x.length ≤ k) : Rp k n (.str x) := ⟨by simpa [PyData.canLay0] using c.ok, by
  simp only [PyData.leavesShort, List.all_eq_true, decide_eq_true_eq]
  intro d hd
  have := c d hd
  omega, rfl, h, by simp [PyData.depth]⟩
theorem Rp.list {k n : Nat} {xs : List PyData} (h : ∀ x ∈ xs, Rp k n x) : Rp (xs.length * (k + 1)) (n + 1) (.list xs) := ⟨by simpa [PyData.canLay0] using lay_all fun x hx => (h x hx).lay, by simpa [PyData.leavesShort] using leaves_all fun x hx => (h x hx).lf,
  by simpa [PyData.showable] using show_all fun x hx => (h x hx).sh, by simpa [PyData.weight] using weight_all k fun x hx => (h x hx).wt, by simpa [PyData.depth] using depth_all fun x hx => (h x hx).dp⟩
theorem Rp.tuple {k n : Nat} {xs : List PyData} (h : ∀ x ∈ xs, Rp k n x) : Rp (xs.length * (k + 1)) (n + 1) (.tuple xs) := ⟨by simpa [PyData.canLay0] using lay_all fun x hx => (h x hx).lay, by simpa [PyData.leavesShort] using leaves_all fun x hx => (h x hx).lf,
  by simpa [PyData.showable] using show_all fun x hx => (h x hx).sh, by simpa [PyData.weight] using weight_all k fun x hx => (h x hx).wt, by simpa [PyData.depth] using depth_all fun x hx => (h x hx).dp⟩
theorem Rp.mono {k n k' n' : Nat} {d : PyData} (r : Rp k n d) (e1 : k ≤ k') (e2 : n ≤ n') : Rp k' n' d := ⟨r.lay, r.lf, r.sh, by have := r.wt; omega, by have := r.dp; omega⟩
theorem Rp.repr {k n : Nat} {d : PyData} {w : W} {h : MH} (r : Rp k n d) (e : dataW h 20 w = some d) (hk : k ≤ 400000) (hn : n ≤ 60) : bRepr [w] h = .ok (.str d.shown) h :=
  repr_data e r.lay r.lf r.sh (by have := r.wt; omega) (by have := r.dp; omega)
end PM
/-! Sm57: membership of any kind: dict, own class, flat, deep. -/
noncomputable section
namespace PM
open PySem PySem.Spec L2
def bInY (neg : Bool) (i : W → W → MH → R W) : W → W → MH → R W := fun x y h => byK y h (bDin neg) i (inG2 neg) x y h
section
variable {X : Cx} {Wx : WX}
theorem os_inY {k : Nat} {i : W → W → MH → R W} (hr : Room (k + 8) X.A) (hi : OpS X Wx (compareOp .In) i) : OpS X Wx (compareOp .In) (bInY false i) := os_byK (os_din (k := k) (hr.mono (by omega))) hi (os_in2 hr) fun x y g => by
  unfold bInY
  rw [byK_ap, byK_ap, byK_ap]; exact byK_or ..
theorem os_notinY {k : Nat} {i : W → W → MH → R W} (hr : Room (k + 8) X.A) (hi : OpS X Wx (compareOp .NotIn) i) : OpS X Wx (compareOp .NotIn) (bInY true i) := os_byK (os_dnotin (k := k) (hr.mono (by omega))) hi (os_notin2 hr) fun x y g => by
  unfold bInY
  rw [byK_ap, byK_ap, byK_ap]; exact byK_or ..
end
end PM
/-! Sm58: comprehensions of two fors. -/
noncomputable section
namespace PM
open PySem PySem.Spec L2
def lcIn (mi : MI) (g : GM) (t : TM) (e : EM) (σ : MS) (j : Nat) (κ : MH → R W) : Nat → Nat → MH → R W
  | 0, i, h => match mi.nx i h with
    | some none => κ h
    | _ => .stuck
  | f + 1, i, h => match mi.nx i h with
    | some none => κ h
    | none => .stuck
    | some (some w) => match g w σ h with
      | none => .stuck
      | some σ1 => ((t σ1 h).nox).bind fun k h1 => if k = true then
          ((e σ1 h1).nox).bind fun y h2 => match mutAt h2 j with
            | some acc => if acc.length < sizeLine then lcIn mi g t e σ j κ f (i + 1) (h2.set j (.lst (acc ++ [y]))) else .stuck
            | none => .stuck
        else lcIn mi g t e σ j κ f (i + 1) h1
def lcGo2 (mi : MI) (g : GM) (t : TM) (it1 : MS → MH → R MI) (vs1 : List Nat) (g1 : GM) (t1 : TM) (e : EM) (σ : MS) (j : Nat) : Nat → Nat → MH → R W
  | 0, i, h => match mi.nx i h with
    | some none => .ok (.ref j) h
    | _ => .stuck
  | f + 1, i, h => match mi.nx i h with
    | some none => .ok (.ref j) h
    | none => .stuck
    | some (some w) => match g w σ h with
      | none => .stuck
      | some σ1 => ((t σ1 h).nox).bind fun k h1 => if k = true then
          ((it1 σ1 h1).nox).bind fun mi1 h2 => lcIn mi1 g1 t1 e (wipeM σ1 vs1) j (fun h3 => lcGo2 mi g t it1 vs1 g1 t1 e σ j f (i + 1) h3) mi1.fuel 0 h2
        else lcGo2 mi g t it1 vs1 g1 t1 e σ j f (i + 1) h1
def eLc2 (it : MS → MH → R MI) (vs : List Nat) (g : GM) (t : TM) (it1 : MS → MH → R MI) (vs1 : List Nat) (g1 : GM) (t1 : TM) (m : EM) : EM := fun σ h => (it σ h).bind fun mi h1 => lcGo2 mi g t it1 vs1 g1 t1 m (wipeM σ vs) h1.length mi.fuel 0 (h1 ++ [.lst []])
section
variable {K : PySem.W.Frag}
theorem lc2_read {Wx : WX} {it it1 : MS → MH → R MI} {vs vs1 : List Nat} {g g1 : GM} {t t1 : TM} {m : EM} {σ : L2.St} {H : Hp} {Q : VK} (q : tSim K Wx (eLc2 it vs g t it1 vs1 g1 t1 m) σ H Q) :
    tLc2 (iSim K Wx it) (gSim K vs g) (tSimT K W0 t) (iSim K W0 it1) (gSim K vs1 g1) (tSimT K W0 t1) (tSim K W0 m) vs vs1 σ H Q := by
  obtain ⟨b, h, σm, e, S, l, q⟩ := q
  refine ⟨b, h, σm, e, S, l, (Post.bind (rel := ItS K) q).mono fun J H1 ⟨c, mi, gg, e, x, s, r, p⟩ D hD => ?_⟩
  subst e
  obtain ⟨xD, sD, rD⟩ := s.pushL (ys := []) (vs := []) hD .nil
  have hj : gg.length = c.n := s.len.symm
  have lt0 : gg.length < (c.push D (.lst [])).n := by rw [hj]; exact Nat.lt_succ_self _
  let V : Nat → Nat → Hp → Prop := fun i f H => ∃ (b : Bs) (h : MH), b.H = H ∧ Ext K (c.push D (.lst [])) b ∧ Sim K b h ∧ SlM K b (wipeM σm vs) (wipe σ vs) ∧ Post K (Rl K) (fun c d H' => Wx c d σ H') b Q (lcGo2 mi g t it1 vs1 g1 t1 m (wipeM σm vs) gg.length f i h)
  refine ⟨V, ⟨mi.fuel, c.push D (.lst []), _, rfl, .refl, sD, (((l.ext x).ext xD).wipe vs), Post.ext p xD⟩, ?_⟩
  rintro i f H ⟨b, h, rfl, x2, s2, l2, p⟩
  have ri := r b h i (xD.trans x2) s2
  have atD : b.at_ gg.length = D := by
    rw [x2.ix gg.length lt0, hj]
    exact Bs.push_at _ _ _
  have rj : Rl K b (.ref gg.length) (.ref D) := by
    have := Rl.ref (K := K) (b := b) gg.length (Nat.lt_of_lt_of_le lt0 x2.le)
    rw [atD] at this
    exact this
  cases f with
  | zero =>
    unfold lcGo2 at p
    cases em : mi.nx i h with
    | none => rw [em] at p; exact p.elim
    | some ow =>
      cases ow with
      | none => rw [em] at p ri; exact .inl ⟨ri, p.here s2 rj⟩
      | some w => rw [em] at p; exact p.elim
  | succ f =>
    unfold lcGo2 at p
    cases em : mi.nx i h with
    | none => rw [em] at p; exact p.elim
    | some ow =>
      cases ow with
      | none => rw [em] at p ri; exact .inl ⟨ri, p.here s2 rj⟩
      | some w =>
        rw [em] at p ri
        dsimp only at p ri
        cases eg : g w (wipeM σm vs) h with
        | none => rw [eg] at p; exact p.elim
        | some σ1 =>
          rw [eg] at p
          dsimp only at p
          refine .inr ⟨ri.1, V (i + 1) f, fun H' z => ⟨f, Nat.lt_succ_self _, z⟩, fun v H' y => ?_⟩
          obtain ⟨c1, e1, x1, s1, r1⟩ := ri.2 v H' y
          refine ⟨c1, h, _, w, e1, s1, l2.ext x1, r1, ?_⟩
          rw [eg]
          refine fun c3 σ3 x3 s3 l3 o3 => ⟨?_, c3, h, σ1, rfl, s3, l3, ?_⟩
          · rw [o3.wipe]
            have : Off vs σ (wipe σ vs) := ⟨wipe_length _ _, fun j hj => by rw [wipe_get, if_neg hj]⟩
            rw [this.wipe]
          refine (Post.bindN (rel := rEqB) (Post.ext p (x1.trans x3))).mono fun k H4 ⟨c4, k', g4, e4, x4, s4, r4, p4⟩ => ?_
          subst e4; subst r4
          have l4 : SlM K c4 (wipeM σm vs) (wipe σ vs) := ((l2.ext x1).ext x3).ext x4
          have x04 : Ext K (c.push D (.lst [])) c4 := x2.trans (x1.trans (x3.trans x4))
          cases k' with
          | false =>
            rw [if_neg Bool.false_ne_true] at p4 ⊢
            exact ⟨c4, g4, rfl, x04, s4, l4, p4⟩
          | true =>
            rw [if_pos rfl] at p4 ⊢
            refine ⟨c4, g4, σ1, rfl, s4, l3.ext x4, (Post.bindN (rel := ItS K) p4).mono fun J1 H5 ⟨c5, mi1, g5, e5, x5, s5, r5, p5⟩ => ?_⟩
            subst e5
            have l5 : SlM K c5 (wipeM σ1 vs1) (wipe σ3 vs1) := ((l3.ext x4).ext x5).wipe vs1
            have x05 : Ext K (c.push D (.lst [])) c5 := x04.trans x5
            have m5 : SlM K c5 (wipeM σm vs) (wipe σ vs) := l4.ext x5
            refine ⟨fun jj k H => ∃ (b : Bs) (h : MH), b.H = H ∧ Ext K c5 b ∧ Sim K b h ∧ Post K (Rl K) (fun c d H' => Wx c d σ H') b Q (lcIn mi1 g1 t1 m (wipeM σ1 vs1) gg.length (fun h3 => lcGo2 mi g t it1 vs1 g1 t1 m (wipeM σm vs) gg.length f (i + 1) h3) k jj h), ⟨mi1.fuel, c5, g5, rfl, .refl, s5, p5⟩, ?_⟩
            rintro jj k H ⟨b, h, rfl, y2, z2, q⟩
            have rj1 := r5 b h jj y2 z2
            have stop : Post K (Rl K) (fun c d H' => Wx c d σ H') b Q (lcGo2 mi g t it1 vs1 g1 t1 m (wipeM σm vs) gg.length f (i + 1) h) → V (i + 1) f b.H := fun q => ⟨b, h, rfl, x05.trans y2, z2, m5.ext y2, q⟩
            cases k with
            | zero =>
              unfold lcIn at q
              cases em1 : mi1.nx jj h with
              | none => rw [em1] at q; exact q.elim
              | some ow =>
                cases ow with
                | none => rw [em1] at q rj1; exact .inl ⟨rj1, stop q⟩
                | some w => rw [em1] at q; exact q.elim
            | succ k =>
              unfold lcIn at q
              cases em1 : mi1.nx jj h with
              | none => rw [em1] at q; exact q.elim
              | some ow =>
                cases ow with
                | none => rw [em1] at q rj1; exact .inl ⟨rj1, stop q⟩
                | some w1 =>
                  rw [em1] at q rj1
                  dsimp only at q rj1
                  cases eg1 : g1 w1 (wipeM σ1 vs1) h with
                  | none => rw [eg1] at q; exact q.elim
                  | some σ4 =>
                    rw [eg1] at q
                    dsimp only at q
                    refine .inr ⟨rj1.1, fun H' => ∃ (b : Bs) (h : MH), b.H = H' ∧ Ext K c5 b ∧ Sim K b h ∧ Post K (Rl K) (fun c d H' => Wx c d σ H') b Q (lcIn mi1 g1 t1 m (wipeM σ1 vs1) gg.length (fun h3 => lcGo2 mi g t it1 vs1 g1 t1 m (wipeM σm vs) gg.length f (i + 1) h3) k (jj + 1) h), fun H' z => ⟨k, Nat.lt_succ_self _, z⟩, fun v H' y => ?_⟩
                    obtain ⟨d1, e1, y1, z1, w1r⟩ := rj1.2 v H' y
                    refine ⟨d1, h, _, w1, e1, z1, (l5.ext y2).ext y1, w1r, ?_⟩
                    rw [eg1]
                    refine fun d3 σ5 y3 z3 n3 o3 => ⟨?_, d3, h, σ4, rfl, z3, n3, ?_⟩
                    · rw [o3.wipe]
                      have : Off vs1 σ3 (wipe σ3 vs1) := ⟨wipe_length _ _, fun j hj => by rw [wipe_get, if_neg hj]⟩
                      rw [this.wipe]
                    refine (Post.bindN (rel := rEqB) (Post.ext q (y1.trans y3))).mono fun k2 H6 ⟨d4, k', g6, e4, y4, z4, r4, q4⟩ => ?_
                    subst e4; subst r4
                    have y04 : Ext K c5 d4 := y2.trans (y1.trans (y3.trans y4))
                    cases k' with
                    | false =>
                      rw [if_neg Bool.false_ne_true] at q4 ⊢
                      exact ⟨d4, g6, rfl, y04, z4, q4⟩
                    | true =>
                      rw [if_pos rfl] at q4 ⊢
                      refine ⟨d4, g6, σ4, rfl, z4, n3.ext y4, (Post.bindN (rel := Rl K) q4).mono fun y H7 ⟨d5, yw, g7, e5, y5, z5, r7, q5⟩ => ?_⟩
                      subst e5
                      cases ea : mutAt g7 gg.length with
                      | none => rw [ea] at q5; exact q5.elim
                      | some acc =>
                        rw [ea] at q5
                        dsimp only at q5
                        by_cases hz : acc.length < sizeLine
                        · rw [if_pos hz] at q5
                          obtain ⟨us, h6, r6, lt6⟩ := z5.mut ea
                          have at5 : d5.at_ gg.length = D := by
                            rw [((x05.trans y04).trans y5).ix _ lt0, hj]
                            exact Bs.push_at _ _ _
                          rw [at5] at h6
                          obtain ⟨x7, s7⟩ := z5.putL (ys := acc ++ [yw]) (vs := us ++ [y]) ea (r6.append (.cons r7 .nil))
                          refine ⟨us, h6, by rw [← r6.length]; exact hz, d5.put gg.length (.lst (us ++ [y])), _, ?_, y04.trans (y5.trans x7), s7, Post.ext q5 x7⟩
                          show upd d5.H (d5.at_ gg.length) _ = _
                          rw [at5]
                        · rw [if_neg hz] at q5; exact q5.elim
end
section
variable {X : Cx} {Wx : WX} {pos : Pos} {tg iter tg1 iter1 : Expr}
theorem se_lc2 {ifs ifs1 : List Expr} {scope : Scope} {own : List (Str × Nat)} {vs1 : List Nat} {it it1 : MS → MH → R MI} {g g1 : GM} {t t1 : TM} {m : EM} {elt : Expr} (hc : X.calm = true) (hN : X.N.Nodup) (hi : SI X Wx tg iter it) (ok : BlkOk X.N X.env.scope scope own) (hv : ∀ i ∈ vs1, i ∈ own.map (·.2))
    (hg : ∀ (s : Shared) (H : Hp) (C : Addr) (cl : List (Str × Addr)) (fp : List Addr), SG (X.blk s H scope (compEnvC scope cl C X.env) fp) tg (own.map (·.2)) g)
    (ht : ∀ (s : Shared) (H : Hp) (C : Addr) (cl : List (Str × Addr)) (fp : List Addr), SPTs (X.blk s H scope (compEnvC scope cl C X.env) fp) ifs t)
    (hi1 : ∀ (s : Shared) (H : Hp) (C : Addr) (cl : List (Str × Addr)) (fp : List Addr), SI (X.blk s H scope (compEnvC scope cl C X.env) fp) W0 tg1 iter1 it1)
    (hg1 : ∀ (s : Shared) (H : Hp) (C : Addr) (cl : List (Str × Addr)) (fp : List Addr), SG (X.blk s H scope (compEnvC scope cl C X.env) fp) tg1 vs1 g1)
    (ht1 : ∀ (s : Shared) (H : Hp) (C : Addr) (cl : List (Str × Addr)) (fp : List Addr), SPTs (X.blk s H scope (compEnvC scope cl C X.env) fp) ifs1 t1)
    (he : ∀ (s : Shared) (H : Hp) (C : Addr) (cl : List (Str × Addr)) (fp : List Addr), SE (X.blk s H scope (compEnvC scope cl C X.env) fp) W0 elt m)
    (hs : ∀ x, foldedSetIterable iter X.env x = pure x := by intro _; rfl) (hs1 : ∀ env x, foldedSetIterable iter1 env x = pure x := by intro _ _; rfl) :
    SE X Wx (.ListComp elt [⟨tg, iter, ifs, 0⟩, ⟨tg1, iter1, ifs1, 0⟩] scope pos) (eLc2 it (own.map (·.2)) g t it1 vs1 g1 t1 m) :=
  ⟨pe_imp (pe_lc2 (g := gSim X.K (own.map (·.2)) g) (tt := tSimT X.K W0 t) (wi1 := iSim X.K W0 it1) (g1 := gSim X.K vs1 g1) (tt1 := tSimT X.K W0 t1) (te := tSim X.K W0 m) hc hN hi.pi ok hv (fun s H C cl fp => (hg s H C cl fp).pg) (fun s H C cl fp => (ht s H C cl fp).pts)
    (fun s H C cl fp => (hi1 s H C cl fp).pi) (fun s H C cl fp => (hg1 s H C cl fp).pg) (fun s H C cl fp => (ht1 s H C cl fp).pts) (fun s H C cl fp => (he s H C cl fp).pe) hs hs1) fun σ H Q q => lc2_read q⟩
theorem ss_setLc2 {i : Nat} {y : Str} {py : Pos} {ifs ifs1 : List Expr} {scope : Scope} {own : List (Str × Nat)} {vs1 : List Nat} {it it1 : MS → MH → R MI} {g g1 : GM} {t t1 : TM} {m : EM} {elt : Expr} {spos : Pos} (hc : X.calm = true) (hN : X.N.Nodup) (hy : X.N[i]? = some y) (hyl : X.env.scope.names.lookup y = some .local)
    (hsw : swapsWith (.ListComp elt [⟨tg, iter, ifs, 0⟩, ⟨tg1, iter1, ifs1, 0⟩] scope pos) (some (.Name y py)) spos.line X.env = pure true) (hi : SI X Wx tg iter it) (ok : BlkOk X.N X.env.scope scope own) (hv : ∀ i ∈ vs1, i ∈ own.map (·.2))
    (hg : ∀ (s : Shared) (H : Hp) (C : Addr) (cl : List (Str × Addr)) (fp : List Addr), SG (X.blk s H scope (compEnvC scope cl C X.env) fp) tg (own.map (·.2)) g)
    (ht : ∀ (s : Shared) (H : Hp) (C : Addr) (cl : List (Str × Addr)) (fp : List Addr), SPTs (X.blk s H scope (compEnvC scope cl C X.env) fp) ifs t)
    (hi1 : ∀ (s : Shared) (H : Hp) (C : Addr) (cl : List (Str × Addr)) (fp : List Addr), SI (X.blk s H scope (compEnvC scope cl C X.env) fp) W0 tg1 iter1 it1)
    (hg1 : ∀ (s : Shared) (H : Hp) (C : Addr) (cl : List (Str × Addr)) (fp : List Addr), SG (X.blk s H scope (compEnvC scope cl C X.env) fp) tg1 vs1 g1)
    (ht1 : ∀ (s : Shared) (H : Hp) (C : Addr) (cl : List (Str × Addr)) (fp : List Addr), SPTs (X.blk s H scope (compEnvC scope cl C X.env) fp) ifs1 t1)
    (he : ∀ (s : Shared) (H : Hp) (C : Addr) (cl : List (Str × Addr)) (fp : List Addr), SE (X.blk s H scope (compEnvC scope cl C X.env) fp) W0 elt m)
    (hs : ∀ x, foldedSetIterable iter X.env x = pure x := by intro _; rfl) (hs1 : ∀ env x, foldedSetIterable iter1 env x = pure x := by intro _ _; rfl) :
    SS X Wx (.Assign [.Name y py] (.ListComp elt [⟨tg, iter, ifs, 0⟩, ⟨tg1, iter1, ifs1, 0⟩] scope pos) spos) (sSet i (eLc2 it (own.map (·.2)) g t it1 vs1 g1 t1 m)) := by
  refine ⟨ps_imp (ps_setLc2 (g := gSim X.K (own.map (·.2)) g) (tt := tSimT X.K W0 t) (wi1 := iSim X.K W0 it1) (g1 := gSim X.K vs1 g1) (tt1 := tSimT X.K W0 t1) (te := tSim X.K W0 m) hc hN hy hyl hsw hi.pi ok hv (fun s H C cl fp => (hg s H C cl fp).pg) (fun s H C cl fp => (ht s H C cl fp).pts)
    (fun s H C cl fp => (hi1 s H C cl fp).pi) (fun s H C cl fp => (hg1 s H C cl fp).pg) (fun s H C cl fp => (ht1 s H C cl fp).pts) (fun s H C cl fp => (he s H C cl fp).pe) hs hs1) fun D σ H ⟨b, h, σm, e, S, l, q⟩ => ?_⟩
  refine lc2_read ⟨b, h, σm, e, S, l, ?_⟩
  refine (PostS.st (rel := Rl X.K) l q).mono fun v H1 ⟨c, w, g, e, x, s, r, p⟩ => ?_
  subst e
  exact p c _ .refl s ((l.ext x).set i r)
end
end PM
/-! Sm59: enumerate of a tuple. -/
noncomputable section
namespace PM
open PySem PySem.Spec L2
open PyProof.Rows hiding St
theorem meets_enum1 {v : Value} {o : Obj} {H : Heap → Prop} (B : Begins v o H) : Meets (Builtin.«enumerate.__new__» ⟨[.type "enumerate", v], []⟩) (fun _ R s => H s.heap ∧ R (.ok (.ret (.ref (s.heap.push o).objs.size))) { s with heap := (s.heap.push o).push { cls := .type "enumerate", data := .fields #[.none, .bool false, .ref s.heap.objs.size, rawInt 0, .none, .none] } }) :=
  .of_wp fun prog w A R s h => by
    obtain ⟨hp, g, d, tk, os⟩ := s
    obtain ⟨h1, h⟩ := h
    have hsub := sub_enumerate
    have q1 : ∀ {A' : Around} {E : Value → Shared → Prop} {Q : Value → Shared → Prop}, Q (.ref hp.objs.size) ⟨hp.push o, g, d, tk, os⟩ → wpAny (model prog w) A' (pyIter v) Q E ⟨hp, g, d, tk, os⟩ := fun q => B.iter prog w _ _ ⟨hp, g, d, tk, os⟩ _ h1 q
    (wp_walk using q1)
    refine wpAny_stack_any fun st => wpAny_pure ?_
    split
    · rename_i c _ _ _ _ _
      cases (c == Value.type "enumerate") <;> ((wp_walk using q1); exact ⟨_, rfl, h⟩)
    · (wp_walk using q1); exact ⟨_, rfl, h⟩
theorem enum1 {prog : Program} {w : World} {A : Around} {E : Value → Shared → Prop} {s : Shared} {v : Value} {o : Obj} {H : Heap → Prop} {Q : Value → Shared → Prop} (B : Begins v o H) (h1 : H s.heap)
    (h : ∀ h', IsEnum h' (s.heap.objs.size + 1) s.heap.objs.size 0 .none → h'.get? s.heap.objs.size = some o → h'.objs.size = s.heap.objs.size + 2 → (∀ b o, s.heap.get? b = some o → h'.get? b = some o) → Q (.ref (s.heap.objs.size + 1)) { s with heap := h' }) :
    wpAny (model prog w) A (call (.type "enumerate") [v]) Q E s := by
  refine callType_new F.called_enumerate (by decide) (F.typeCall_enumerate_1 _) (F.newCall_enumerate_1 _) (fun obj => F.args_object_init_2 obj _) F.entry_enumerate_new (meets_enum1 B) ⟨h1, ?_⟩
  have z1 : (s.heap.push o).objs.size = s.heap.objs.size + 1 := Heap.size_push ..
  show _ ∧ _
  rw [z1]
  have z2 : IsEnum ((s.heap.push o).push { cls := .type "enumerate", data := .fields #[.none, .bool false, .ref s.heap.objs.size, rawInt 0, .none, .none] }) (s.heap.objs.size + 1) s.heap.objs.size 0 .none := by
    have z3 := Heap.get?_push_size (s.heap.push o) (o := { cls := .type "enumerate", data := .fields #[.none, .bool false, .ref s.heap.objs.size, rawInt 0, .none, .none] }) rfl
    (rw [z1] at z3); exact z3
  exact ⟨⟨_, z2, rfl⟩, h _ z2 (Heap.get?_push_of_some _ (Heap.get?_push_size _ B.free)) (by rw [Heap.size_push, z1]) fun b o x => Heap.get?_push_of_some _ (Heap.get?_push_of_some _ x)⟩
/-- the turns of enumerate(a tuple) -/
def IteT (K : PySem.W.Frag) (a : Addr) : It :=
  ⟨fun i H => ∃ (xs : List V) (x : V), SqT K H a xs ∧ xs[i]? = some x, fun i H v H' => ∃ T x, v = .ref T ∧ H T = none ∧ H' = upd H T (.tup [.int (i : Nat), x]) ∧ ∀ xs, SqT K H a xs → xs[i]? = some x, fun i H => ∃ xs : List V, SqT K H a xs ∧ xs.length ≤ i⟩
theorem turn_enumT {P : Program} {w : World} {K : PySem.W.Frag} {elts : List Expr} {kk : Nat} {tpos : Pos} (a e it : Addr) :
    Turn P w K (.Tuple elts kk tpos) (IteT K a) [e, it] e (fun i h => (∃ old, IsEnum h e it ((i : Nat) : Int) old) ∧ h.IsTupleIter it a i ∧ e ≠ it) where
  mem := by simp
  obj := fun i h st b hb => by
    obtain ⟨⟨old, he⟩, ⟨o, ho, hc, hd⟩, _⟩ := st
    have e' : b = e ∨ b = it := by simpa using hb
    rcases e' with z | z
    · (rw [z]); exact ⟨_, he, fun v q => nomatch q⟩
    · (rw [z]); exact ⟨o, ho, fun v q => by rw [hd] at q; cases q⟩
  keep := fun i h h' st k => let ⟨⟨old, he⟩, hi, hne⟩ := st
    ⟨⟨old, k e (by simp) _ he⟩, hi.at fun o q => k it (by simp) o q, hne⟩
  item := by
    intro X hP hw hK hc i pins s σ H E I hf st hg
    subst hP hw hK
    obtain ⟨⟨old, he⟩, hit, hne⟩ := st
    obtain ⟨xs, x, hq, hx⟩ := hg
    obtain ⟨its, rv, p, hz⟩ := I.tuple hq
    have p : s.heap.IsTuple a its.toArray := p
    obtain ⟨u, hu, ru⟩ := rv.get hx
    have ha1 : a ≠ it := fun z => by
      obtain ⟨o1, q1, q2, _⟩ := id hit
      obtain ⟨o2, q3, q4, _⟩ := id p
      rw [← z, q3] at q1
      cases q1
      rw [q4] at q2
      exact absurd (Value.type.inj q2) (by decide)
    have ha2 : e ≠ a := fun z => by
      obtain ⟨o2, q3, q4, _⟩ := id p
      have q5 : s.heap.get? e = some _ := he
      rw [z, q3] at q5
      cases q5
      exact absurd (Value.type.inj q4) (by decide)
    have hel : e < s.heap.objs.size := Heap.lt_size he
    have hil : it < s.heap.objs.size := by obtain ⟨_, q, _⟩ := hit; exact Heap.lt_size q
    have D := Draws.tuple (prog := X.prog) (w := X.w) (A := X.A.in1) (show X.A.in1.handled = none from I.ok.hd hc) it a ha1 its.toArray
    have hlt : i < its.toArray.size := by
      have := (List.getElem?_eq_some_iff.mp hu).1
      simpa using this
    refine wpAny_pyNext_enum_itemD D he ⟨hit, p⟩ hlt hne (by simp [hne, ha2]) fun y h' tk hy ho hst' hT hsz hk => ?_
    have ey : y = u := by
      have z : its.toArray[i]? = some y := hy
      have : its.toArray[i]? = some u := by simpa using hu
      rw [this] at z
      exact (Option.some.inj z).symm
    subst ey
    refine ⟨_, rfl, wpAny_letOwnedTupleGo_enum (s := { s with heap := h', toks := tk + 1 }) ho fun h'' he' sb => ?_⟩
    have hT2 : h''.get? s.heap.objs.size = some { cls := .type "tuple", data := .seq #[.int i tk, y] } := (sb.2 _ (Nat.ne_of_gt hel)).trans hT
    have new : ObjOk X.prog X.w (upd H s.heap.objs.size (.tup [.int (i : Nat), x])) h'' s.heap.objs.size (.tup [.int (i : Nat), x]) := ⟨by show 2 ≤ sizeLine; decide, [.int i tk, y], .cons ⟨_, rfl⟩ (.cons ru .nil), ⟨_, hT2, rfl, _, rfl⟩⟩
    have I1 : Inv X pins σ (upd H s.heap.objs.size (.tup [.int (i : Nat), x])) { s with heap := h'', toks := tk + 1 } :=
      I.turnedNew (ch := [e, it]) (fun b ob hb q => (sb.2 b (fun z => hb (by simp [z]))).trans (hk b ob (fun z => hb (by simp [z])) (fun z => hb (by simp [z])) q)) hf (Nat.le_refl _) new
    have fit := hst'.1
    refine ⟨.ref s.heap.objs.size, _, I1, rfl, ⟨_, x, rfl, I.hok.fresh (Nat.le_refl _), rfl, fun ys hy => by rw [I.tuple_inj hy hq]; exact hx⟩, ⟨⟨y, ?_⟩, fit.at fun o q => (sb.2 it (Ne.symm hne)).trans q, hne⟩, fun b hb => ?_⟩
    · have e1 : ((i + 1 : Nat) : Int) = (i : Int) + 1 := by omega
      (rw [e1]); exact he'
    · have hb' : b < s.heap.objs.size := by
        have e' : b = e ∨ b = it := by simpa using hb
        rcases e' with z | z
        · (rw [z]); exact hel
        · (rw [z]); exact hil
      rw [upd_ne (Nat.ne_of_lt hb')]
      exact (hf b hb).1
  done := by
    intro X hP hw hK hc i pins s σ H E I hf st hg
    subst hP hw hK
    obtain ⟨⟨old, he⟩, hit, hne⟩ := st
    obtain ⟨xs, hq, hx⟩ := hg
    obtain ⟨its, rv, p, hz⟩ := I.tuple hq
    have p : s.heap.IsTuple a its.toArray := p
    obtain ⟨f0, f1, f2, f3, f4, f5⟩ := hf it (by simp)
    have ha1 : a ≠ it := fun z => by
      obtain ⟨o1, q1, q2, _⟩ := id hit
      obtain ⟨o2, q3, q4, _⟩ := id p
      rw [← z, q3] at q1
      cases q1
      rw [q4] at q2
      exact absurd (Value.type.inj q2) (by decide)
    have hl := rv.length
    have T : s.TypeIs (.ref e) "enumerate" := ⟨_, he, rfl⟩
    unfold pyNext
    refine wpAny_bind (wpAny_attempt (wpAny_callSpecial?_slot (name := Str.ofString "__next__") T F.slot_enumerate_next (wpAny_call_entry F.slot_enumerate_next T F.entry_enumerate_next ?_ (F.args_enumerate_next_1 _))))
    show wpAny _ _ (field (.ref e) 2 >>= _) _ _ _
    refine wpAny_bind (wpAny_field he rfl (x := .ref it) rfl ?_)
    refine wpAny_bind (wpAny_nextOf_tuple_end (show X.A.in1.handled = none from I.ok.hd hc) hit p (by simp; omega) fun h' x eb hx' => ?_)
    obtain ⟨o, ho, hc'⟩ := hx'
    refine wpAny_bind (wpAny_isInstance (T := "StopIteration") (b := true) ⟨o, ho, hc'⟩ isSubtype_stop ?_)
    exact wpAny_pure ⟨rfl, I.turned (t' := s.toks) (fun b o hb q => eb b o hb q) f0 f1 f3 f4 f5⟩
  self := fun A i s Q E st h => let ⟨⟨_, he⟩, _⟩ := st; wpAny_pyIter_enum he h
end PM
/-! Sm60: enumerate of a list or a tuple. -/
noncomputable section
namespace PM
open PySem PySem.Spec L2
open PyProof.Rows hiding St
def iEnumLT (K : PySem.W.Frag) (ta : TA) : TI := fun σ H R => ta σ H fun vs H1 => ∃ a, vs = [.ref a] ∧ ((∃ xs, SqL K H1 a xs ∧ R (Ite K a) H1) ∨ ∃ xs, SqT K H1 a xs ∧ R (IteT K a) H1)
theorem pi_enumLT {X : Cx} {e : Expr} {ta : TA} {p pos tpos : Pos} {elts : List Expr} {kk : Nat} (hg : Gl X "enumerate") (hm : X.mg "enumerate" = none) (ha : PA X [e] ta) (hs : starEach [e] X.env = [(false, eval e X.env)] := by rfl) :
    PI X (.Tuple elts kk tpos) (.Call (.Name "enumerate" p) [e] [] pos) (iEnumLT X.K ta) := by
  refine ⟨fun pins s σ H R I h => ?_⟩
  refine Call_ (ld_blt I hg hm boot_enumerate (PyProof.Rows.callWith_type1 (thn (ha.run pos pins s σ H _ I h) fun us s1 ⟨vs, H1, I1, r1, q1⟩ => ?_) hs rfl))
  obtain ⟨a, ex, q1⟩ := q1
  subst ex
  cases r1 with
  | cons r rr =>
    cases rr
    cases r
    have fp : ∀ b ∈ [s1.heap.objs.size + 1, s1.heap.objs.size], FpOk X pins H1 b := fun b hb => by
      have e' : b = s1.heap.objs.size + 1 ∨ b = s1.heap.objs.size := by simpa using hb
      have hle : s1.heap.objs.size ≤ b := by omega
      exact I1.fpOk hle (I1.hok.fresh hle)
    rcases q1 with ⟨xs, hq, q⟩ | ⟨xs, hq, q⟩
    · obtain ⟨its, rv, p', hz⟩ := I1.list hq
      refine call_enumerate_list p'.isList fun h' he hit hsz hk => wpAny_pyIter_enum he ?_
      exact ⟨s1.heap.objs.size + 1, [s1.heap.objs.size + 1, s1.heap.objs.size], _, _, H1, rfl, I1.kept (t' := s1.toks) hk, turn_enum a (s1.heap.objs.size + 1) s1.heap.objs.size, ⟨⟨.none, he⟩, hit, Nat.succ_ne_self _⟩, fp, q⟩
    · obtain ⟨its, rv, p', hz⟩ := I1.tuple hq
      refine enum1 (begins_tuple a its.toArray) (show s1.heap.IsTuple a its.toArray from p') fun h' he hit hsz hk => wpAny_pyIter_enum he ?_
      exact ⟨s1.heap.objs.size + 1, [s1.heap.objs.size + 1, s1.heap.objs.size], _, _, H1, rfl, I1.kept (t' := s1.toks) hk, turn_enumT a (s1.heap.objs.size + 1) s1.heap.objs.size, ⟨⟨.none, he⟩, ⟨_, hit, rfl, rfl⟩, Nat.succ_ne_self _⟩, fp, q⟩
section
variable {X : Cx} {Wx : WX}
def itEt (xs : List W) : MI := ⟨xs.length, fun k _ => some (xs[k]?.map fun x => .tup [.int k, x])⟩
def iEnm2 (m : EM) : MS → MH → R MI := fun σ h => (m σ h).bind fun w g => match lstW g w with
  | some xs => .ok (itE w xs.length) g
  | none => match w with
    | .tup xs => .ok (itEt xs) g
    | _ => .stuck
theorem itEt_ok {K : PySem.W.Frag} {c : Bs} {ws : List W} {vs : List V} {a : Addr} (hs : SqT K c.H a vs) (rr : Rls K c ws vs) : ItS K c (itEt ws) (IteT K a) := by
  intro b h k x S
  unfold itEt
  dsimp only
  have hs2 := x.tp a vs hs
  have rr2 := rr.ext x
  cases ey : ws[k]? with
  | none =>
    refine ⟨vs, hs2, ?_⟩
    have := List.getElem?_eq_none_iff.mp ey
    rw [← rr2.length]; exact this
  | some y =>
    obtain ⟨u, eu, ru⟩ := rr2.get ey
    refine ⟨⟨vs, u, hs2, eu⟩, fun z H' ⟨T, x', e1, hT, eH, hx⟩ => ?_⟩
    have := hx vs hs2
    rw [eu] at this
    cases this
    subst e1 eH
    have ex := Ext.also (K := K) (o := .tup [.int (k : Nat), u]) hT
    exact ⟨_, rfl, ex, S.also hT, .tup T _ _ (.inl (.inl upd_same)) (.cons (.int _) (.cons (ru.ext ex) .nil))⟩
theorem si_enum2 {e : Expr} {me : EM} {p pos tpos : Pos} {elts : List Expr} {kk : Nat} (hg : Gl X "enumerate") (hm : X.mg "enumerate" = none) (he : SE X Wx e me) (hs : starEach [e] X.env = [(false, eval e X.env)] := by rfl) :
    SI X Wx (.Tuple elts kk tpos) (.Call (.Name "enumerate" p) [e] [] pos) (iEnm2 me) := ⟨pi_imp (pi_enumLT hg hm (sa_cons he sa_nil hs).pa hs) fun σ H Rr ⟨b, h, σm, eH, S, l, q⟩ => by
  refine ⟨b, h, σm, eH, S, l, ?_⟩
  have q : Post X.K (ItS X.K) (fun c d H' => Wx c d σ H') b Rr ((me σm h).bind fun w g => match lstW g w with
    | some xs => .ok (itE w xs.length) g
    | none => match w with
      | .tup xs => .ok (itEt xs) g
      | _ => .stuck) := q
  show Post X.K (Rls X.K) _ b _ ((me σm h).bind _)
  cases em : me σm h with
  | stuck => rw [em] at q; exact q.elim
  | exc x g => rw [em] at q; exact q
  | ok w g =>
    rw [em] at q
    intro c vs x s r
    obtain ⟨v, rfl, rv⟩ := rls1 r
    simp only [R.bind_ok] at q
    cases ew : lstW g w with
    | some xs =>
      rw [ew] at q
      obtain ⟨a, us, rfl, hs2, rr⟩ := s.listW rv ew
      exact ⟨a, rfl, .inl ⟨us, hs2, q c (Ite X.K a) x s (itE_ok rv)⟩⟩
    | none =>
      rw [ew] at q
      cases rv with
      | tup a ws us hs2 rr => exact ⟨a, rfl, .inr ⟨us, hs2, q c (IteT X.K a) x s (itEt_ok hs2 rr)⟩⟩
      | _ => exact q.elim⟩
end
end PM
/-! Sm61: a tuple turned round. -/
noncomputable section
namespace HT
open PySem PyProof.Rows
section
variable {prog : Program} {w : World} {A : Around} {E : Value → Shared → Prop} {s : Shared}
theorem places_rev (n : Nat) : Builtin.Slice.slicePlaces ((n : Int) - 1) (-1) (-1) = n := by
  unfold Builtin.Slice.slicePlaces
  have h1 : ¬ (-1 : Int) > 0 := by omega
  simp only [h1, if_false, show (- -1 : Int) = 1 from rfl, Int.ediv_one]
  split <;> omega
theorem adjust_rev (n : Nat) : Builtin.Slice.sliceAdjust none none (-1) (n : Int) = ((n : Int) - 1, -1) := by
  unfold Builtin.Slice.sliceAdjust
  simp
theorem sliceApplied_rev {sl : Addr} {vl vu vs : Value} {n : Nat} {Q : Int × Int × Nat → Shared → Prop} (hs : s.heap.IsSliceOf sl vl vu vs) (pl : IsPart vl none) (pu : IsPart vu none) (ps : IsPart vs (some (-1)))
    (h : Q ((n : Int) - 1, -1, n) s) : wpAny (model prog w) A (Builtin.Slice.sliceApplied (.ref sl) (pure (n : Int))) Q E s := by
  obtain ⟨os, hos, hcs, hds⟩ := id hs
  unfold Builtin.Slice.sliceApplied Builtin.Slice.sliceFields
  refine wpAny_bind (wpAny_bind (wpAny_field hos hds (x := vl) rfl (wpAny_bind (wpAny_field hos hds (x := vu) rfl (wpAny_bind (wpAny_field hos hds (x := vs) rfl (wpAny_pure ?_)))))))
  refine wpAny_bind (slicePart_ ps ?_)
  show wpAny _ _ (if ((-1 : Int) == 0) = true then _ else _) _ _ s
  rw [if_neg (by decide)]
  refine wpAny_bind (slicePart_ pl (wpAny_bind (slicePart_ pu (wpAny_bind (wpAny_pure ?_)))))
  show wpAny _ _ (match Builtin.Slice.sliceAdjust none none (-1) (n : Int) with | (lo, hi) => pure (lo, (-1 : Int), Builtin.Slice.slicePlaces lo hi (-1))) _ _ s
  rw [adjust_rev n]
  show wpAny _ _ (pure ((n : Int) - 1, (-1 : Int), Builtin.Slice.slicePlaces ((n : Int) - 1) (-1) (-1))) _ _ s
  rw [places_rev]
  exact wpAny_pure h
theorem fm_id {α β : Type} (f : α → Option β) (l : List α) : l.filterMap f = (l.map f).filterMap id := by
  rw [List.filterMap_map]; rfl
theorem pick_rev (xs : Array Value) : ((List.range xs.size).filterMap fun (m : Nat) => xs[((xs.size : Int) - 1 + (m : Int) * (-1)).toNat]?).toArray = xs.toList.reverse.toArray := by
  have e : ∀ m ∈ List.range xs.size, xs[((xs.size : Int) - 1 + (m : Int) * (-1)).toNat]? = xs[xs.size - 1 - m]? := fun m hm => by
    have := List.mem_range.mp hm
    have : ((xs.size : Int) - 1 + (m : Int) * (-1)).toNat = xs.size - 1 - m := by omega
    rw [this]
  have e2 : (List.range xs.size).filterMap (fun (m : Nat) => xs[((xs.size : Int) - 1 + (m : Int) * (-1)).toNat]?) = (List.range xs.size).filterMap fun m => xs[xs.size - 1 - m]? := by
    rw [fm_id, List.map_congr_left e, ← fm_id]
  have e3 : (List.range xs.size).filterMap (fun m => xs[xs.size - 1 - m]?) = ((List.range xs.size).map fun k => xs.size - 1 - k).filterMap fun x => xs[x]? := by
    rw [List.filterMap_map]; rfl
  rw [e2, e3, PySem.W.krv_range, List.filterMap_reverse, PySem.W.krv_all]
theorem getItem_tuple_rev {t sl : Addr} {items : Array Value} {vl vu vs : Value} {Q : Value → Shared → Prop} (ht : IsTup s.heap t items) (hs : s.heap.IsSliceOf sl vl vu vs) (pl : IsPart vl none) (pu : IsPart vu none) (ps : IsPart vs (some (-1)))
    (h : Q (.ref s.heap.objs.size) { s with heap := s.heap.push { cls := .type "tuple", data := .seq items.toList.reverse.toArray } })
    (hsz : items.size ≤ sizeLine) : wpAny (model prog w) A (getItem (.ref t) (.ref sl)) Q E s := by
  have htake : sizeOk (.seq items.toList.reverse.toArray) := by
    show items.toList.reverse.toArray.size ≤ sizeLine
    rw [List.size_toArray, List.length_reverse, Array.length_toList]
    omega
  obtain ⟨os, hos, hcs, hds⟩ := id hs
  have hTs : s.TypeIs (.ref sl) "slice" := ⟨os, hos, hcs⟩
  unfold getItem
  try with_reducible refine wpAny_holding ?_
  first | refine wpAny_bind (wpAny_pure ?_) | skip
  refine wpAny_bind (wpAny_sequenceKey ht.typeIs (by decide) ?_)
  refine wpAny_bind (wpAny_callSpecial?_slot (name := Str.ofString "__getitem__") ht.typeIs PyProof.Rows.slot_tuple_getitem
    (wpAny_call_entry PyProof.Rows.slot_tuple_getitem ht.typeIs entry_tuple_getitem ?_ (args_tuple_getitem _ _)))
  show wpAny _ _ (Builtin.Tuple.tupleItemsOf (.ref t) >>= _) _ _ s
  refine wpAny_bind (tupleItemsOf_ ht ?_)
  refine wpAny_bind (wpAny_typeOf hTs ?_)
  rw [if_pos (by decide)]
  refine wpAny_bind (sliceApplied_rev hs pl pu ps ?_)
  have hno : ¬ ((((items.size : Int) - 1) == 0 && (-1 : Int) == 1 && items.size == items.size) = true) := by
    intro q
    rw [Bool.and_eq_true, Bool.and_eq_true] at q
    exact absurd q.1.2 (by decide)
  show wpAny _ _ (if (((items.size : Int) - 1) == 0 && (-1 : Int) == 1 && items.size == items.size) = true then _ else _) _ _ s
  rw [if_neg hno, pick_rev]
  first
    | exact wpAny_bind (m := Builtin.Tuple.tupleExact _) (wpAny_newObj_type (wpAny_pure ⟨_, rfl, wpAny_pure h⟩) htake)
    | exact wpAny_bind (m := Builtin.Tuple.tupleExact _) (wpAny_newObj_type (wpAny_bind (wpAny_pure (wpAny_pure ⟨_, rfl, wpAny_pure h⟩))) htake)
    | exact wpAny_bind (wpAny_bind (m := Builtin.Tuple.tupleExact _) (wpAny_newObj_type (wpAny_pure (wpAny_pure ⟨_, rfl, wpAny_pure h⟩)) htake))
    | exact wpAny_bind (wpAny_bind (m := Builtin.Tuple.tupleExact _) (wpAny_newObj_type (wpAny_pure ⟨_, rfl, wpAny_pure h⟩) htake))
end
end HT
namespace PM
open PySem PySem.Spec L2
open PyProof.Rows hiding St
section
variable {X : Cx} {Wx : WX}
def tRevT (K : PySem.W.Frag) (te : TE) : TE := fun σ H Q => te σ H fun x H1 => ∃ a, x = .ref a ∧
  ((∃ xs, SqL K H1 a xs ∧ ∀ p, H1 p = none → Q (.ref p) (upd H1 p (.lst xs.reverse))) ∨ (∃ xs, SqT K H1 a xs ∧ ∀ p, H1 p = none → Q (.ref p) (upd H1 p (.tup xs.reverse))))
theorem pe_revT {e : Expr} {te : TE} {k : Nat} {p1 p2 p3 pos : Pos} (he : PE X e te) : PE X (.Subscript e (.Slice none none (some (.UnaryOp .USub (.Constant (.int 1) k p1) p2)) p3) pos) (tRevT X.K te) := by
  refine ⟨fun pins s σ H Q I h => ?_⟩
  refine Subscript_ (thn (he.run pins s σ H _ I h) fun v s1 ⟨x, H1, I1, r1, a, ex, q1⟩ => ?_)
  subst ex
  cases r1
  have stp : PO X (some (.UnaryOp .USub (.Constant (.int 1) k p1) p2)) (tPart (tUn (rU fun i => .int (-i)) (tC (.int 1)))) :=
    po_some (pe_un un_neg pe_int)
  refine wpAny_Slice (thn (po_none.run pins s1 σ H1 (fun o H2 => o = none ∧ H2 = H1) I1 ⟨rfl, rfl⟩)
    fun vl s2 ⟨l, H2, I2, pl, el, e2⟩ => ?_)
  subst el e2
  refine thn (po_none.run pins s2 σ H2 (fun o H3 => o = none ∧ H3 = H2) I2 ⟨rfl, rfl⟩)
    fun vu s3 ⟨u, H3, I3, pu, eu, e3⟩ => ?_
  subst eu e3
  refine thn (stp.run pins s3 σ H3 (fun o H4 => o = some (-1) ∧ H4 = H3) I3 ⟨1, rfl, -1, rfl, rfl, rfl⟩)
    fun vs s4 ⟨o, H4, I4, ps, eo, e4⟩ => ?_
  subst eo e4
  have I5 : Inv X pins σ H4 { s4 with heap := s4.heap.push { cls := .type "slice", data := .fields #[vl, vu, vs] } } :=
    I4.kept (t' := s4.toks) fun b ob q => Heap.get?_push_of_some _ q
  show wpAny (model X.prog X.w) X.A (subscriptTail e
    (.Slice none none (some (.UnaryOp .USub (.Constant (.int 1) k p1) p2)) p3) (.ref a) (.ref s4.heap.objs.size))
    (EP X pins σ Q) X.xe { s4 with heap := s4.heap.push { cls := .type "slice", data := .fields #[vl, vu, vs] } }
  rcases q1 with ⟨xs, hx, q⟩ | ⟨xs, hx, q⟩
  · obtain ⟨its, r, ht, hz⟩ := I5.list hx
    have hlen := r.length
    refine tail_any (ops := [.ref a, .ref s4.heap.objs.size]) ht.isList.typeIs (PySem.slot_list_getitem.lookup) ?_
      (by with_unfolding_all rfl)
    refine wpAny_getItem_list_slice ht.isList (Heap.IsSliceOf.new _ vl vu vs) pl pu ps (by decide) ?_
      (by rw [List.size_toArray]; omega)
    rw [PySem.W.krv_pick]
    refine ⟨.ref _, _, I5.laid (t' := s4.toks) (o := .lst xs.reverse)
      (fun b ob q => Heap.get?_push_of_some _ q) (Nat.le_refl _) ?_, rfl, q _ (I5.hok.fresh (Nat.le_refl _))⟩
    exact ⟨by rw [List.length_reverse]; exact hz, _, 0, r.reverse, Heap.get?_push_size _ rfl⟩
  · obtain ⟨its, r, ht, hz⟩ := I5.tuple hx
    have hlen := r.length
    refine tail_any (ops := [.ref a, .ref s4.heap.objs.size]) ht.typeIs (PyProof.Rows.slot_tuple_getitem.lookup) ?_
      (by with_unfolding_all rfl)
    refine HT.getItem_tuple_rev ht (Heap.IsSliceOf.new _ vl vu vs) pl pu ps ?_
      (by rw [List.size_toArray]; omega)
    refine ⟨.ref _, _, I5.laid (t' := s4.toks) (o := .tup xs.reverse)
      (fun b ob q => Heap.get?_push_of_some _ q) (Nat.le_refl _) ?_, rfl, q _ (I5.hok.fresh (Nat.le_refl _))⟩
    exact ⟨by rw [List.length_reverse]; exact hz, _, r.reverse, _, Heap.get?_push_size _ rfl, rfl, 0, rfl⟩
/-- a list or a tuple turned round -/
def eRevT (m : EM) : EM := fun σ h => (m σ h).bind fun w g => match lstW g w with
  | some xs => .ok (.ref g.length) (g ++ [.lst xs.reverse])
  | none => match w with
    | .tup xs => .ok (.tup xs.reverse) g
    | _ => .stuck
theorem se_revT {e : Expr} {me : EM} {k : Nat} {p1 p2 p3 pos : Pos} (he : SE X Wx e me) :
    SE X Wx (.Subscript e (.Slice none none (some (.UnaryOp .USub (.Constant (.int 1) k p1) p2)) p3) pos) (eRevT me) := by
  refine ⟨pe_imp (pe_revT he.pe) fun σ H Q ⟨b, h, σm, e, S, l, q⟩ => ?_⟩
  refine ⟨b, h, σm, e, S, l, (Post.bind (rel := Rl X.K) q).mono fun v H1 ⟨c, w, g, e, x, s, r, p⟩ => ?_⟩
  subst e
  cases ew : lstW g w with
  | some xs =>
    rw [ew] at p
    obtain ⟨a, us, rfl, hs, rr⟩ := s.listW r ew
    exact ⟨a, rfl, .inl ⟨us, hs, fun q hq => Post.lst s rr.rev p hq⟩⟩
  | none =>
    rw [ew] at p
    cases r with
    | tup a ws vs hs rr => exact ⟨a, rfl, .inr ⟨vs, hs, fun q hq => Post.tup s rr.rev p hq⟩⟩
    | _ => exact p.elim
section
variable {σ : MS} {h : MH}
@[simp] theorem ev_revT (m : EM) : eRevT m σ h = (m σ h).bind fun w g => match lstW g w with
  | some xs => .ok (.ref g.length) (g ++ [.lst xs.reverse])
  | none => match w with
    | .tup xs => .ok (.tup xs.reverse) g
    | _ => .stuck := rfl
end
end
end PM
/-! Sm62: repr of a dict whose values are flat. -/
noncomputable section
namespace PM
open PySem PySem.Spec L2
open PyProof.Rows hiding St
def keyD : Key → PyData
  | .inl i => .int i
  | .inr x => .str x
def dictD (kvs : List (Key × W)) : Option (List (PyData × PyData)) := mapO (fun kv => (flatD kv.2).map fun d => (keyD kv.1, d)) kvs
def bReprD (ws : List W) (h : MH) : R W := match ws with
  | [w] => match dctW h w with
    | some kvs => match dictD kvs with
      | some ds => if (PyData.dict ds).showable = true ∧ (PyData.dict ds).depth ≤ 60 ∧ (PyData.dict ds).shown.length ≤ sizeLine then .ok (.str (PyData.dict ds).shown) h else .stuck
      | none => .stuck
    | none => bRepr [w] h
  | _ => .stuck
section
variable {X : Cx} {Wx : WX} {k : Nat}
theorem reads_key {H : Heap} {k : Key} {v : Value} (e : keyIs k v = true) : Reads H v (keyD k) [] := by
  rcases keyIs_shape e with ⟨i, t, rfl, rfl⟩ | ⟨x, t, rfl, rfl⟩
  · exact .int i t
  · exact .str x t
theorem reads_flat {H : Heap} {u : Value} {d : PyData} {w : W} {v : V} {K : PySem.W.Frag} {b : Bs} (e : flatD w = some d) (r : Rl K b w v) (rv : RelV v u) : Reads H u d [] := by
  cases r <;> simp only [flatD, Option.some.injEq] at e <;> first | (cases e; done) | skip
  · subst e; cases rv; exact .none
  · subst e; cases rv; exact .bool _
  · subst e; obtain ⟨t, rfl⟩ := rv; exact .int _ t
  · subst e; obtain ⟨t, rfl⟩ := rv; exact .str _ t
theorem reads_dict {P : Program} {wd : World} {H : Heap} {K : PySem.W.Frag} {b : Bs} : ∀ {kvs : List (Key × W)} {ps : List (Key × V)} {xs : List (Key × Value)} {es : List DictEntry} {ds : List (PyData × PyData)}, Rlk K b kvs ps → KV ps xs → Pairs (mixKind P wd) es xs → dictD kvs = some ds → ReadsAll H (es.map (·.key)) (ds.map (·.1)) [] ∧ ReadsAll H (es.map (·.val)) (ds.map (·.2)) [] := by
  intro kvs
  induction kvs with
  | nil =>
    intro ps xs es ds r kv p e
    cases e
    have e1 := r.inv_nil
    subst e1
    cases kv
    cases p
    exact ⟨.nil, .nil⟩
  | cons kw kvs ih =>
    intro ps xs es ds r kv p e
    obtain ⟨k, w⟩ := kw
    obtain ⟨v, qs, rfl, r1, r2⟩ := r.inv
    unfold dictD at e
    rw [mapO_cons] at e
    obtain ⟨q, e1, e⟩ := Option.bind_eq_some_iff.mp e
    obtain ⟨ds', e2, e⟩ := Option.bind_eq_some_iff.mp e
    cases e
    obtain ⟨d, e3, rfl⟩ := Option.map_eq_some_iff.mp e1
    cases kv with
    | cons kv1 kvr =>
      cases p with
      | cons h1 h2 pr =>
        obtain ⟨i1, i2⟩ := ih r2 kvr pr e2
        obtain ⟨ek, rv⟩ := kv1
        refine ⟨?_, ?_⟩
        · exact ReadsAll.cons (as := []) (bs := []) (reads_key (by rw [← ek] at h1; exact h1)) i1
        · exact ReadsAll.cons (as := []) (bs := []) (by dsimp only; rw [h2]; exact reads_flat e3 r1 rv) i2
theorem cs_reprD (hr : Room k X.A) (hg : X.A.guards = some []) : CallS X Wx (.builtin "repr") bReprD := by
  refine ⟨fun pins s σ b h ws vs us Q I S r rv q => ?_⟩
  match ws, r, q with
  | [w], r, q =>
    unfold bReprD at q
    dsimp only at q
    cases ed : dctW h w with
    | none =>
      rw [ed] at q
      exact (cs_repr hr hg).run pins s σ b h [w] vs us Q I S r rv q
    | some kvs =>
      rw [ed] at q
      dsimp only at q
      cases e2 : dictD kvs with
      | none => rw [e2] at q; exact q.elim
      | some ds =>
        rw [e2] at q
        dsimp only at q
        split at q
        case isFalse => exact q.elim
        rename_i hz
        obtain ⟨z1, z3, z4⟩ := hz
        obtain ⟨v, rfl, r1⟩ := rls1 r
        obtain ⟨u, rfl, ru⟩ := vals1 rv
        obtain ⟨ad, ps, rfl, rd, rp⟩ := S.dicW r1 ed
        cases ru
        obtain ⟨_, lo1, xs, kx, dx⟩ := dk_rd I.hok rd
        obtain ⟨o, es, ep, ho, hx, hd, _, hp, _⟩ := dx
        obtain ⟨rk, rvv⟩ := reads_dict (H := s.heap) rp kx hp e2
        have rr : Reads s.heap (.ref ad) (.dict ds) (ad :: [] ++ []) := Reads.dict ho hx.1 hd rk rvv
        have hu := hr.units
        exact repr_of_reads' rr z1 (fun _ z => by
          simp at z
          rw [← z] at lo1
          simp at lo1) hg (by omega) (fun _ _ e => e) (fun h' tk t kp => ⟨.str (PyData.dict ds).shown, b.H, I.kept kp, ⟨tk, rfl⟩, q.here S (.str _)⟩) z4
  | [], _, q => exact q.elim
  | _ :: _ :: _, _, q => exact q.elim
end
end PM
/-! Sm63: dict of a list of pairs. -/
noncomputable section
namespace PM
open PySem PySem.Spec L2
open PyProof.Rows hiding St
def pr1 : W → Option (Key × W)
  | .tup [k, v] => (keyOf k).map fun q => (q, v)
  | _ => none
def prsOf (xs : List W) : Option (List (Key × W)) := mapO pr1 xs
def bDictP (ws : List W) (h : MH) : R W := match ws with
  | [x] => match dctW h x with
    | some kvs => .ok (.ref h.length) (h ++ [.dct kvs])
    | none => match (lstW h x).bind prsOf with
      | some kvs => .ok (.ref h.length) (h ++ [.dct (mergeM [] kvs)])
      | none => .stuck
  | _ => .stuck
section
variable {X : Cx} {Wx : WX}
theorem key_rl1 {K : PySem.W.Frag} {b : Bs} {w : W} {v : V} {k : Key} (e : keyOf w = some k) (r : Rl K b w v) : v = kV k := by
  cases r <;> simp only [keyOf, Option.some.injEq, reduceCtorEq] at e
  · subst e; rfl
  · subst e; rfl
theorem pr1_rl {K : PySem.W.Frag} {b : Bs} {x : W} {v : V} {q : Key × W} (r : Rl K b x v) (e : pr1 x = some q) : ∃ a y, v = .ref a ∧ SqT K b.H a [kV q.1, y] ∧ Rl K b q.2 y := by
  unfold pr1 at e
  split at e
  · rename_i k w
    obtain ⟨k', ek, rfl⟩ := Option.map_eq_some_iff.mp e
    cases r with
    | tup a ws us hs ru =>
      cases ru with
      | cons rk ru => cases ru with
        | cons rw ru =>
          cases ru
          have := key_rl1 ek rk
          subst this
          exact ⟨a, _, rfl, hs, rw⟩
  · cases e
theorem prs_rls {K : PySem.W.Frag} {b : Bs} : ∀ {xs : List W} {vs : List V} {kvs : List (Key × W)}, Rls K b xs vs → prsOf xs = some kvs → ∃ (ps : List Addr) (qs : List (Key × V)), vs = ps.map V.ref ∧ Paired (fun p (kv : Key × V) => SqT K b.H p [kV kv.1, kv.2]) ps qs ∧ Rlk K b kvs qs := by
  intro xs
  induction xs with
  | nil =>
    intro vs kvs r e
    cases r
    cases e
    exact ⟨[], [], rfl, .nil, .nil⟩
  | cons x xs ih =>
    intro vs kvs r e
    unfold prsOf at e
    rw [mapO_cons] at e
    obtain ⟨q, e1, e⟩ := Option.bind_eq_some_iff.mp e
    obtain ⟨l, e2, e⟩ := Option.bind_eq_some_iff.mp e
    cases e
    cases r with
    | cons r1 rr =>
      obtain ⟨a, y, rfl, hs, ry⟩ := pr1_rl r1 e1
      obtain ⟨ps, qs, rfl, p, rl⟩ := ih rr e2
      exact ⟨a :: ps, (q.1, y) :: qs, rfl, .cons hs p, Rlk.cons ry rl⟩
theorem cs_dictP (hc : X.calm = true) : CallS X Wx (.type "dict") bDictP := .of (callR_or call_dictD (call_dictP hc)) fun σ b h ws vs Q S r q => by
  unfold bDictP at q
  split at q
  · rename_i x
    obtain ⟨v, rfl, r1⟩ := rls1 r
    split at q
    · rename_i kvs ed
      obtain ⟨a, ps, rfl, rd, rk⟩ := S.dicW r1 ed
      refine .inl ⟨_, ps, rfl, rd, fun p hp => ?_⟩
      obtain ⟨ex, S2, r2⟩ := S.pushD2 hp rk
      exact q _ _ ex S2 r2
    · split at q
      · rename_i kvs el
        obtain ⟨xs, e1, e2⟩ := Option.bind_eq_some_iff.mp el
        obtain ⟨a, us, rfl, hs, rx⟩ := S.listW r1 e1
        obtain ⟨ps, qs, rfl, pp, rk⟩ := prs_rls rx e2
        refine .inr ⟨a, ps, qs, rfl, hs, pp, fun p hp => ?_⟩
        obtain ⟨ex, S2, r2⟩ := S.pushD2 hp (Rlk.merge rk .nil)
        exact q _ _ ex S2 r2
      · exact q.elim
  · exact q.elim
end
end PM
/-! Sm64: targets that change less than is allowed. -/
noncomputable section
namespace PM
open PySem PySem.Spec L2
open PyProof.Rows hiding St
section
variable {X : Cx}
theorem sg_wide {tg : Expr} {vs us : List Nat} {g : GM} (a : SG X tg vs g) (hs : ∀ j ∈ vs, j ∈ us) : SG X tg us g := ⟨pg_imp a.pg fun v σ H Q ⟨b, h, σm, w, e, S, l, r, q⟩ => ⟨b, h, σm, w, e, S, l, r, by
  split at q
  · exact fun c σ' x1 x2 x3 o => q c σ' x1 x2 x3 (o.mono hs)
  · exact q.elim⟩⟩
end
end PM
/-! Sm65: repr of lists, tuples and dicts within one another. -/
noncomputable section
namespace PM
open PySem PySem.Spec L2
open PyProof.Rows hiding St
def dataE (h : MH) : Nat → W → Option PyData
  | _, .non => some .none
  | _, .bl k => some (.bool k)
  | _, .int i => some (.int i)
  | _, .str x => some (.str x)
  | 0, _ => none
  | n + 1, .tup xs => (mapO (dataE h n) xs).map .tuple
  | n + 1, .vl xs => (mapO (dataE h n) xs).map .list
  | n + 1, .vd kvs => (mapO (fun kv : Key × W => (dataE h n kv.2).map fun d => (keyD kv.1, d)) kvs).map .dict
  | n + 1, .ref i => match h[i]? with
    | some (.lst xs) => (mapO (dataE h n) xs).map .list
    | some (.dct kvs) => (mapO (fun kv : Key × W => (dataE h n kv.2).map fun d => (keyD kv.1, d)) kvs).map .dict
    | _ => none
  | _, _ => none
def shownW (d : PyData) (h : MH) : R W := if d.showable = true ∧ d.depth ≤ 60 ∧ d.shown.length ≤ sizeLine then .ok (.str d.shown) h else .stuck
def bReprE (ws : List W) (h : MH) : R W := match bReprD ws h with
  | .stuck => match ws with
    | [w] => match dataE h 20 w with
      | some d => shownW d h
      | none => .stuck
    | _ => .stuck
  | r => r
theorem reprE_of {ws : List W} {h g : MH} {a : W} (e : bReprD ws h = .ok a g) : bReprE ws h = .ok a g := by
  unfold bReprE
  rw [e]
section
variable {X : Cx} {Wx : WX} {k : Nat} {pins : List (Addr × Obj)} {σ : L2.St} {s : Shared} {b : Bs} {h : MH}
theorem sysmod_none {H : Hp} (hm : (X.K.lookup sysModules).isSome = true) (I : Inv X pins σ H s) : H sysModules = none := by
  obtain ⟨o, e⟩ := Option.isSome_iff_exists.mp hm
  exact (I.bs _ o (I.ok.mod.kin _ _ e)).2
theorem readsE_all {H : Heap} {K : PySem.W.Frag} {f : W → Option PyData} (ih : ∀ (w : W) (v : V) (u : Value) (d : PyData), f w = some d → Rl K b w v → RelV v u → ∃ as, Reads H u d as ∧ sysModules ∉ as) :
    ∀ {ws : List W} {vs : List V} {us : List Value} {ds : List PyData}, mapO f ws = some ds → Rls K b ws vs → Vals vs us → ∃ as, ReadsAll H us ds as ∧ sysModules ∉ as := by
  intro ws
  induction ws with
  | nil =>
    intro vs us ds e r rv
    cases e
    cases r
    cases rv
    exact ⟨[], .nil, fun z => nomatch z⟩
  | cons w ws ihw =>
    intro vs us ds e r rv
    rw [mapO_cons] at e
    obtain ⟨d, e1, e⟩ := Option.bind_eq_some_iff.mp e
    obtain ⟨ds', e2, e⟩ := Option.bind_eq_some_iff.mp e
    cases e
    cases r with
    | cons r1 r2 =>
      cases rv with
      | cons v1 v2 =>
        obtain ⟨as, q1, n1⟩ := ih _ _ _ _ e1 r1 v1
        obtain ⟨bs, q2, n2⟩ := ihw e2 r2 v2
        exact ⟨as ++ bs, .cons q1 q2, fun z => (List.mem_append.mp z).elim n1 n2⟩
theorem readsE_dict {P : Program} {wd : World} {H : Heap} {K : PySem.W.Frag} {f : W → Option PyData} (ih : ∀ (w : W) (v : V) (u : Value) (d : PyData), f w = some d → Rl K b w v → RelV v u → ∃ as, Reads H u d as ∧ sysModules ∉ as) :
    ∀ {kvs : List (Key × W)} {ps : List (Key × V)} {xs : List (Key × Value)} {es : List DictEntry} {ds : List (PyData × PyData)}, Rlk K b kvs ps → KV ps xs → Pairs (mixKind P wd) es xs → mapO (fun kv : Key × W => (f kv.2).map fun d => (keyD kv.1, d)) kvs = some ds →
    ReadsAll H (es.map (·.key)) (ds.map (·.1)) [] ∧ ∃ as, ReadsAll H (es.map (·.val)) (ds.map (·.2)) as ∧ sysModules ∉ as := by
  intro kvs
  induction kvs with
  | nil =>
    intro ps xs es ds r kv p e
    cases e
    have e1 := r.inv_nil
    subst e1
    cases kv
    cases p
    exact ⟨.nil, [], .nil, fun z => nomatch z⟩
  | cons kw kvs ihk =>
    intro ps xs es ds r kv p e
    obtain ⟨k, w⟩ := kw
    obtain ⟨v, qs, rfl, r1, r2⟩ := r.inv
    rw [mapO_cons] at e
    obtain ⟨q, e1, e⟩ := Option.bind_eq_some_iff.mp e
    obtain ⟨ds', e2, e⟩ := Option.bind_eq_some_iff.mp e
    cases e
    obtain ⟨d, e3, rfl⟩ := Option.map_eq_some_iff.mp e1
    cases kv with
    | cons kv1 kvr =>
      cases p with
      | cons h1 h2 pr =>
        obtain ⟨i1, bs, i2, n2⟩ := ihk r2 kvr pr e2
        obtain ⟨ek, rv⟩ := kv1
        obtain ⟨as, q1, n1⟩ := ih _ _ _ _ e3 r1 rv
        refine ⟨ReadsAll.cons (as := []) (bs := []) (reads_key (by rw [← ek] at h1; exact h1)) i1, as ++ bs, ReadsAll.cons (by dsimp only; rw [h2]; exact q1) i2, fun z => (List.mem_append.mp z).elim n1 n2⟩
theorem readsE (hm : (X.K.lookup sysModules).isSome = true) (I : Inv X pins σ b.H s) (S : Sim X.K b h) : ∀ (n : Nat) (w : W) (v : V) (u : Value) (d : PyData), dataE h n w = some d → Rl X.K b w v → RelV v u → ∃ as, Reads s.heap u d as ∧ sysModules ∉ as := by
  have sm := sysmod_none hm I
  have lst : ∀ (n : Nat) (ih : ∀ (w : W) (v : V) (u : Value) (d : PyData), dataE h n w = some d → Rl X.K b w v → RelV v u → ∃ as, Reads s.heap u d as ∧ sysModules ∉ as) {a : Addr} {vs : List V} {ws : List W} {ds : List PyData} (e : mapO (dataE h n) ws = some ds) (rr : Rls X.K b ws vs) (eh : b.H a = some (.lst vs)), ∃ as, Reads s.heap (.ref a) (.list ds) as ∧ sysModules ∉ as := fun n ih {a vs ws ds} e rr eh => by
    obtain ⟨_, its, m, rv, ho⟩ := (show ObjOk X.prog X.w b.H s.heap a (.lst vs) from I.hok a _ eh)
    obtain ⟨as, q, nn⟩ := readsE_all ih e rr rv
    refine ⟨a :: as, Reads.list ho rfl rfl q, fun z => ?_⟩
    rcases List.mem_cons.mp z with z | z
    · rw [← z, sm] at eh; cases eh
    · exact nn z
  have dct : ∀ (n : Nat) (ih : ∀ (w : W) (v : V) (u : Value) (d : PyData), dataE h n w = some d → Rl X.K b w v → RelV v u → ∃ as, Reads s.heap u d as ∧ sysModules ∉ as) {a : Addr} {ps : List (Key × V)} {kvs : List (Key × W)} {ds : List (PyData × PyData)} (e : mapO (fun kv : Key × W => (dataE h n kv.2).map fun d => (keyD kv.1, d)) kvs = some ds) (rr : Rlk X.K b kvs ps) (eh : Rd b.H a (.dK ps)), ∃ as, Reads s.heap (.ref a) (.dict ds) as ∧ sysModules ∉ as := fun n ih {a ps kvs ds} e rr eh => by
    obtain ⟨_, lo1, xs, kx, dx⟩ := dk_rd I.hok eh
    obtain ⟨o, es, ep, ho, hx, hd, _, hp, _⟩ := dx
    obtain ⟨rk, as, rvv, nn⟩ := readsE_dict ih rr kx hp e
    refine ⟨a :: [] ++ as, Reads.dict ho hx.1 hd rk rvv, fun z => ?_⟩
    rcases List.mem_cons.mp z with z | z
    · rw [← z] at lo1; simp at lo1
    · exact nn z
  intro n
  induction n with
  | zero =>
    intro w v u d e r ru
    cases r <;> simp only [dataE, Option.some.injEq] at e <;> first | (cases e; done) | skip
    · subst e; cases ru; exact ⟨[], .none, fun z => nomatch z⟩
    · subst e; cases ru; exact ⟨[], .bool _, fun z => nomatch z⟩
    · subst e; obtain ⟨t, rfl⟩ := ru; exact ⟨[], .int _ t, fun z => nomatch z⟩
    · subst e; obtain ⟨t, rfl⟩ := ru; exact ⟨[], .str _ t, fun z => nomatch z⟩
  | succ n ih =>
    intro w v u d e r ru
    cases r with
    | non => simp only [dataE, Option.some.injEq] at e; subst e; cases ru; exact ⟨[], .none, fun z => nomatch z⟩
    | bl k => simp only [dataE, Option.some.injEq] at e; subst e; cases ru; exact ⟨[], .bool _, fun z => nomatch z⟩
    | int i => simp only [dataE, Option.some.injEq] at e; subst e; obtain ⟨t, rfl⟩ := ru; exact ⟨[], .int _ t, fun z => nomatch z⟩
    | str x => simp only [dataE, Option.some.injEq] at e; subst e; obtain ⟨t, rfl⟩ := ru; exact ⟨[], .str _ t, fun z => nomatch z⟩
    | ty x => simp [dataE] at e
    | glo x => simp [dataE] at e
    | ref i hi =>
      cases ru
      simp only [dataE] at e
      split at e
      · rename_i xs eo
        obtain ⟨ds, e', rfl⟩ := Option.map_eq_some_iff.mp e
        obtain ⟨vs, eh, rr⟩ := S.ob i _ eo
        exact lst n ih e' rr eh
      · rename_i kvs eo
        obtain ⟨ds, e', rfl⟩ := Option.map_eq_some_iff.mp e
        obtain ⟨ps, eh, rr⟩ := S.ob i _ eo
        exact dct n ih e' rr (.inl eh)
      · cases e
    | tup a ws vs hs rr =>
      cases ru
      simp only [dataE] at e
      obtain ⟨ds, e', rfl⟩ := Option.map_eq_some_iff.mp e
      obtain ⟨its, rv, ⟨o, ho, hc, m, hd⟩, _⟩ := I.tuple hs
      obtain ⟨as, q, nn⟩ := readsE_all ih e' rr rv
      exact ⟨as, Reads.tuple ho hc hd q, nn⟩
    | vl a ws vs hz rr =>
      cases ru
      simp only [dataE] at e
      obtain ⟨ds, e', rfl⟩ := Option.map_eq_some_iff.mp e
      exact lst n ih e' rr (S.zh a _ hz)
    | vd a kvs ps hz e1 rr =>
      cases ru
      simp only [dataE] at e
      obtain ⟨ds, e', rfl⟩ := Option.map_eq_some_iff.mp e
      exact dct n ih e' ⟨e1, rr⟩ (S.zh a _ hz)
    | vi a C fs dx ps hz e1 rr => simp [dataE] at e
theorem cs_reprE (hm : (X.K.lookup sysModules).isSome = true) (hr : Room k X.A) (hg : X.A.guards = some []) : CallS X Wx (.builtin "repr") bReprE := by
  refine ⟨fun pins s σ b h ws vs us Q I S r rv q => ?_⟩
  unfold bReprE at q
  cases ed : bReprD ws h with
  | ok a g => rw [ed] at q; exact (cs_reprD hr hg).run pins s σ b h ws vs us Q I S r rv (by rw [ed]; exact q)
  | exc a g => rw [ed] at q; exact (cs_reprD hr hg).run pins s σ b h ws vs us Q I S r rv (by rw [ed]; exact q)
  | stuck =>
    rw [ed] at q
    dsimp only at q
    split at q
    case h_2 => exact q.elim
    rename_i w
    split at q
    case h_2 => exact q.elim
    rename_i d hd
    unfold shownW at q
    split at q
    case isFalse => exact q.elim
    rename_i hz
    obtain ⟨z1, z3, z4⟩ := hz
    obtain ⟨v, rfl, r1⟩ := rls1 r
    obtain ⟨u, rfl, ru⟩ := vals1 rv
    obtain ⟨as, rd, nn⟩ := readsE hm I S _ _ _ _ _ hd r1 ru
    have fin : ∀ h' tk t, (∀ b o, s.heap.get? b = some o → h'.get? b = some o) → EP X pins σ Q (.str d.shown tk) { s with heap := h', toks := t } := fun h' tk t kp => ⟨.str d.shown, b.H, I.kept kp, ⟨tk, rfl⟩, q.here S (.str _)⟩
    have hu := hr.units
    cases rd with
    | none => exact PySem.P.repr_of_none (fin s.heap _ _ fun _ _ e => e)
    | bool k => exact PySem.P.repr_of_bool (fin s.heap _ _ fun _ _ e => e)
    | int i t => exact PySem.P.repr_of_int (of_decide_eq_true (show decide (i.natAbs.log2 < 1920) = true from by simpa only [PyData.showable] using z1)) (fin s.heap _ _ fun _ _ e => e)
    | str x t => exact PySem.P.repr_of_str (by simpa only [PyData.shown] using (fin s.heap s.toks (s.toks + 1) fun _ _ e => e)) (by simpa only [PyData.shown] using z4)
    | list h1 h2 h3 h4 => exact repr_of_reads' (.list h1 h2 h3 h4) z1 (fun _ => nn) hg (by omega) (fun _ _ e => e) (fun h' tk t kp => fin h' tk t kp) z4
    | tuple h1 h2 h3 h4 => exact repr_of_reads' (.tuple h1 h2 h3 h4) z1 (fun _ => nn) hg (by omega) (fun _ _ e => e) (fun h' tk t kp => fin h' tk t kp) z4
    | dict h1 h2 h3 h4 h5 => exact repr_of_reads' (.dict h1 h2 h3 h4 h5) z1 (fun _ => nn) hg (by omega) (fun _ _ e => e) (fun h' tk t kp => fin h' tk t kp) z4
end
end PM
/-! Sm66: slices of lists with a step. -/
noncomputable section
namespace PM
open PySem PySem.Spec L2
open PyProof.Rows hiding St
def sl3I (n : Nat) (lo hi st : Option Int) : List Nat := sliceRange (sliceBounds lo hi st n).1 (sliceBounds lo hi st n).2.1 (sliceBounds lo hi st n).2.2
def pickL {α : Type} (xs : List α) (lo hi st : Option Int) : List α := (sl3I xs.length lo hi st).filterMap (xs[·]?)
section
variable {X : Cx} {Wx : WX}
theorem vals_pick {xs : List V} {us : List Value} (r : Vals xs us) : ∀ l : List Nat, Vals (l.filterMap (xs[·]?)) (l.filterMap (us[·]?))
  | [] => .nil
  | i :: l => by
    rw [List.filterMap_cons, List.filterMap_cons]
    cases e : xs[i]? with
    | none =>
      have : us[i]? = none := by
        have := List.getElem?_eq_none_iff.mp e
        rw [r.length] at this
        exact List.getElem?_eq_none this
      rw [this]
      exact vals_pick r l
    | some x =>
      obtain ⟨u, eu, ru⟩ := r.get e
      rw [eu]
      exact .cons ru (vals_pick r l)
theorem rls_pick {K : PySem.W.Frag} {b : Bs} {ws : List W} {vs : List V} (r : Rls K b ws vs) : ∀ l : List Nat, Rls K b (l.filterMap (ws[·]?)) (l.filterMap (vs[·]?))
  | [] => .nil
  | i :: l => by
    rw [List.filterMap_cons, List.filterMap_cons]
    cases e : ws[i]? with
    | none =>
      have : vs[i]? = none := by
        have := List.getElem?_eq_none_iff.mp e
        rw [r.length] at this
        exact List.getElem?_eq_none this
      rw [this]
      exact rls_pick r l
    | some x =>
      obtain ⟨u, eu, ru⟩ := r.get e
      rw [eu]
      exact .cons ru (rls_pick r l)
def tSl3 (K : PySem.W.Frag) (te : TE) (tl th ts : TO) : TE := fun σ H Q => te σ H fun x H1 => tl σ H1 fun l H2 => th σ H2 fun u H3 => ts σ H3 fun st H4 => ∃ a xs, x = .ref a ∧ SqL K H4 a xs ∧ st ≠ some 0 ∧ (pickL xs l u st).length ≤ sizeLine ∧
  ∀ p, H4 p = none → Q (.ref p) (upd H4 p (.lst (pickL xs l u st)))
theorem pe_sl3 {e : Expr} {te : TE} {tl th ts : TO} {lo hi : Option Expr} {st : Expr} {p2 pos : Pos} (he : PE X e te) (hl : PO X lo tl) (hu : PO X hi th) (hs : PO X (some st) ts) : PE X (.Subscript e (.Slice lo hi (some st) p2) pos) (tSl3 X.K te tl th ts) := by
  refine ⟨fun pins s σ H Q I h => ?_⟩
  refine Subscript_ (thn (he.run pins s σ H _ I h) fun v s1 ⟨x, H1, I1, r1, q1⟩ => ?_)
  refine wpAny_Slice (thn (hl.run pins s1 σ H1 _ I1 q1) fun vl s2 ⟨l, H2, I2, pl, q2⟩ => thn (hu.run pins s2 σ H2 _ I2 q2) fun vu s3 ⟨u, H3, I3, pu, q3⟩ => thn (hs.run pins s3 σ H3 _ I3 q3) fun vs s4 ⟨so, H4, I4, ps, q4⟩ => ?_)
  obtain ⟨a, xs, rfl, hx, s0, lz, q⟩ := q4
  cases r1
  have I5 : Inv X pins σ H4 { s4 with heap := s4.heap.push { cls := .type "slice", data := .fields #[vl, vu, vs] } } :=
    I4.kept (t' := s4.toks) fun b ob q => Heap.get?_push_of_some _ q
  show wpAny (model X.prog X.w) X.A (subscriptTail e (.Slice lo hi (some st) p2) (.ref a) (.ref s4.heap.objs.size)) (EP X pins σ Q) X.xe { s4 with heap := s4.heap.push { cls := .type "slice", data := .fields #[vl, vu, vs] } }
  obtain ⟨its, r, ht, hz⟩ := I5.list hx
  have hlen := r.length
  refine tail_any (ops := [.ref a, .ref s4.heap.objs.size]) ht.isList.typeIs (PySem.slot_list_getitem.lookup) ?_ (by with_unfolding_all rfl)
  refine wpAny_getItem_list_slice ht.isList (Heap.IsSliceOf.new _ vl vu vs) pl pu ps s0 ?_ (by rw [List.size_toArray]; omega)
  have ep : slicePick its.toArray l u so = (pickL its l u so).toArray := by
    unfold slicePick pickL sl3I
    simp
  rw [ep]
  have hv : Vals (pickL xs l u so) (pickL its l u so) := by
    unfold pickL
    rw [hlen]
    exact vals_pick r _
  refine ⟨.ref _, _, I5.laid (t' := s4.toks) (o := .lst (pickL xs l u so)) (fun b ob q => Heap.get?_push_of_some _ q) (Nat.le_refl _) ?_, rfl, q _ (I5.hok.fresh (Nat.le_refl _))⟩
  exact ⟨lz, _, 0, hv, Heap.get?_push_size _ rfl⟩
/-- a list's slice with a step -/
def eSl3 (m : EM) (lo hi st : OM) : EM := fun σ h => (m σ h).bind fun x h1 => (lo σ h1).bind fun l h2 => (hi σ h2).bind fun u h3 => (st σ h3).bind fun so h4 => match lstW h4 x with
  | some xs => if so ≠ some 0 ∧ (pickL xs l u so).length ≤ sizeLine then .ok (.ref h4.length) (h4 ++ [.lst (pickL xs l u so)]) else .stuck
  | none => .stuck
theorem se_sl3 {a : Expr} {ma : EM} {lo hi : Option Expr} {st : Expr} {ml mh ms : OM} {p2 pos : Pos} (ha : SE X Wx a ma) (hl : SO X Wx lo ml) (hh : SO X Wx hi mh) (hs : SO X Wx (some st) ms) : SE X Wx (.Subscript a (.Slice lo hi (some st) p2) pos) (eSl3 ma ml mh ms) := by
  refine ⟨pe_imp (pe_sl3 ha.pe hl.po hh.po hs.po) fun σ H Q ⟨b, h, σm, eH, S, l, q⟩ => ?_⟩
  subst eH
  refine ⟨b, h, σm, rfl, S, l, (Post.bind (rel := Rl X.K) q).mono fun x' H1 ⟨c1, x, h1, eH, E1, S1, r1, q1⟩ => ?_⟩
  subst eH
  refine ⟨c1, h1, σm, rfl, S1, l.ext E1, (Post.bind (rel := rEqO) q1).mono fun y' H2 ⟨c2, y, h2, eH, E2, S2, r2, q2⟩ => ?_⟩
  subst eH; subst r2
  refine ⟨c2, h2, σm, rfl, S2, (l.ext E1).ext E2, (Post.bind (rel := rEqO) q2).mono fun z' H3 ⟨c3, z, h3, eH, E3, S3, r3, q3⟩ => ?_⟩
  subst eH; subst r3
  refine ⟨c3, h3, σm, rfl, S3, ((l.ext E1).ext E2).ext E3, (Post.bind (rel := rEqO) q3).mono fun w' H4 ⟨c4, w, h4, eH, E4, S4, r4, q4⟩ => ?_⟩
  subst eH; subst r4
  have r1 := ((r1.ext E2).ext E3).ext E4
  cases ew : lstW h4 x with
  | none => rw [ew] at q4; exact q4.elim
  | some xs =>
    rw [ew] at q4
    dsimp only at q4
    split at q4
    case isFalse => exact q4.elim
    rename_i hz
    obtain ⟨a, us, rfl, hx, rr⟩ := S4.listW r1 ew
    have el : (pickL us y z w).length = (pickL xs y z w).length := by
      unfold pickL
      rw [← rr.length]
      exact ((rls_pick rr _).length).symm
    refine ⟨a, us, rfl, hx, hz.1, by rw [el]; exact hz.2, fun p hp => Post.lst S4 ?_ q4 hp⟩
    unfold pickL
    rw [← rr.length]
    exact rls_pick rr _
end
section
variable {σ : MS} {h : MH}
@[simp] theorem ev_sl3 (m : EM) (lo hi st : OM) : eSl3 m lo hi st σ h = (m σ h).bind fun x h1 => (lo σ h1).bind fun l h2 => (hi σ h2).bind fun u h3 => (st σ h3).bind fun so h4 => match lstW h4 x with
  | some xs => if so ≠ some 0 ∧ (pickL xs l u so).length ≤ sizeLine then .ok (.ref h4.length) (h4 ++ [.lst (pickL xs l u so)]) else .stuck
  | none => .stuck := rfl
end
end PM
/-! Sm67: reprs within f-strings. -/
noncomputable section
namespace PM
open PySem PySem.Spec L2
open PyProof.Rows hiding St
def eFmtR (m : EM) : EM := fun σ h => (m σ h).bind fun w h1 => match dataE h1 20 w with
  | some d => shownW d h1
  | none => .stuck
section
variable {X : Cx} {Wx : WX} {k : Nat}
theorem se_fmtR {e : Expr} {me : EM} {pos : Pos} (hm : (X.K.lookup sysModules).isSome = true) (hr : Room k X.A) (hg : X.A.guards = some []) (he : SE X Wx e me) : SE X Wx (.FormattedValue e 114 none pos) (eFmtR me) := by
  refine ⟨⟨fun pins s σ H Q I q => ?_⟩⟩
  obtain ⟨b, h, σm, rfl, S, l, q⟩ := q
  refine wpAny_FormattedValue_repr (thn (he.pe.run pins s σ _ _ I ⟨b, h, σm, rfl, S, l, Post.bind (rel := Rl X.K) q⟩) fun v s1 hv => ?_)
  obtain ⟨x, H1, I1, r1, c1, w, h1, e1, E1, S1, rw_, q1⟩ := hv
  subst e1
  cases ed : dataE h1 20 w with
  | none => rw [ed] at q1; exact q1.elim
  | some d =>
    rw [ed] at q1
    dsimp only at q1
    unfold shownW at q1
    split at q1
    case isFalse => exact q1.elim
    rename_i hz
    obtain ⟨z1, z3, z4⟩ := hz
    obtain ⟨as, rd, nn⟩ := readsE hm I1 S1 _ _ _ _ _ ed rw_ r1
    have hu := hr.units
    have fin : ∀ h' t, (∀ b o, s1.heap.get? b = some o → h'.get? b = some o) → ∀ tk, EP X pins σ Q (.str d.shown tk) { s1 with heap := h', toks := t } := fun h' t kp tk => ⟨.str d.shown, c1.H, I1.kept kp, ⟨tk, rfl⟩, q1.here S1 (.str _)⟩
    have go : ∀ (u : Tok) h' t, (∀ b o, s1.heap.get? b = some o → h'.get? b = some o) → wpAny (model X.prog X.w) X.A (formatField (.str d.shown u) Str.empty) (EP X pins σ Q) X.xe { s1 with heap := h', toks := t } := fun u h' t kp =>
      wpAny_formatField_str (fin h' t kp _) (fin h' (t + 1) kp _) z4
    cases rd with
    | none => exact pyReprObj_none (by simpa only [PyData.shown] using go s1.toks s1.heap (s1.toks + 1) fun _ _ e => e)
    | bool k => exact pyReprObj_bool (by simpa only [PyData.shown] using go s1.toks s1.heap (s1.toks + 1) fun _ _ e => e)
    | int i t => exact pyReprObj_int (of_decide_eq_true (show decide (i.natAbs.log2 < 1920) = true from by simpa only [PyData.showable] using z1)) (by simpa only [PyData.shown] using go s1.toks s1.heap (s1.toks + 1) fun _ _ e => e)
    | str x t => exact pyReprObj_str (by simpa only [PyData.shown] using go s1.toks s1.heap (s1.toks + 1) fun _ _ e => e) (by simpa only [PyData.shown] using z4)
    | list h1 h2 h3 h4 => exact pyReprObj_of_reads (.list h1 h2 h3 h4) z1 (fun _ => nn) hg (by omega) (fun _ _ e => e) (fun h' u tk kp => go u h' tk kp) z4
    | tuple h1 h2 h3 h4 => exact pyReprObj_of_reads (.tuple h1 h2 h3 h4) z1 (fun _ => nn) hg (by omega) (fun _ _ e => e) (fun h' u tk kp => go u h' tk kp) z4
    | dict h1 h2 h3 h4 h5 => exact pyReprObj_of_reads (.dict h1 h2 h3 h4 h5) z1 (fun _ => nn) hg (by omega) (fun _ _ e => e) (fun h' u tk kp => go u h' tk kp) z4
end
section
variable {σ : MS} {h : MH}
@[simp] theorem ev_fmtR (m : EM) : eFmtR m σ h = (m σ h).bind fun w h1 => match dataE h1 20 w with
  | some d => shownW d h1
  | none => .stuck := rfl
end
end PM
noncomputable section
namespace Bag
open PySem L2 PM
def bagG : FM := mkF 1 1
    (sRet (eLst (aCons (eCall bMax2 (aCons (eC (.int 0)) (aCons (e2 bSub (eVar 0) (e2 bPow (eC (.int 10)) (eC (.int 18)))) aNil))) (aCons (e2 bMod (eVar 0) (eC (.int 2147483629))) (aCons (eC (.int 0)) aNil)))))
def cellG (a b : Int) : FM := mkF 2 2
    (sSeq (sIf (tTru (e2 bLt (eVar 1) (eCall bLen (aCons (eVar 0) aNil)))) (sRet (e2 bIxX (eVar 0) (eVar 1))) sNext)
    (sRet (e2 bAdd (e2 bMul (eC (.int a)) (eVar 1)) (eC (.int b)))))
def takeG (a b c : Int) : FM := mkF 2 4
    (sSeq (sIf (tTru (e2 bGt (e2 bIxX (eVar 0) (eC (.int 0))) (eC (.int 0)))) (sSeq (sSet 2 (e2 bMod (e2 bIxX (eVar 0) (eC (.int 0))) (eVar 1)))
    (sSeq (sSetA (eVar 0) (eC (.int 0)) (e2 bDiv (e2 bIxX (eVar 0) (eC (.int 0))) (eVar 1)))
    (sRet (eVar 2)))) sNext)
    (sSeq (sSetA (eVar 0) (eC (.int 2)) (e2 bAdd (e2 bIxX (eVar 0) (eC (.int 2))) (eC (.int 1))))
    (sSeq (sSet 3 (e2 bMod (e2 bPow (e2 bAdd (e2 bAdd (e2 bIxX (eVar 0) (eC (.int 1))) (e2 bMul (eC (.int a)) (e2 bIxX (eVar 0) (eC (.int 2))))) (eC (.int b))) (eC (.int 5))) (eC (.int 2147483647))))
    (sSeq (sSet 3 (e2 bMod (e2 bPow (e2 bAdd (eVar 3) (e2 bMul (eC (.int c)) (e2 bIxX (eVar 0) (eC (.int 2))))) (eC (.int 3))) (eC (.int 2147483587))))
    (sRet (e2 bMod (e2 bDiv (eVar 3) (eC (.int 16))) (eVar 1)))))))
def contentG (take : FM) : FM := mkF 1 6
    (sSeq (sSet 1 (e2 bAdd (eC (.int 1)) (eCall (fz take) (aCons (eVar 0) (aCons (e2 bIxX (eFz (eLst (aCons (eC (.int 4)) (aCons (eC (.int 8)) (aCons (eC (.int 12)) (aCons (eC (.int 66)) aNil)))))) (eCall (fz take) (aCons (eVar 0) (aCons (eC (.int 4)) aNil)))) aNil)))))
    (sSeq (sPar 2 3 (aCons (eLRg1 (eVar 1)) (aCons eDict0 aNil)))
    (sSeq (sFor (iRange rng1 (aCons (eCall (fz take) (aCons (eVar 0) (aCons (e2 bAdd (eVar 1) (eC (.int 1))) aNil))) aNil)) (gN 4) (sSeq (sSet 5 (eAlt (eBM "list" bPop (eVar 2) (aCons (eCall (fz take) (aCons (eVar 0) (aCons (eCall bLen (aCons (eVar 2) aNil)) aNil))) aNil)) (eBM "dict" bDpop (eVar 2) (aCons (eCall (fz take) (aCons (eVar 0) (aCons (eCall bLen (aCons (eVar 2) aNil)) aNil))) aNil))))
    (sSetA (eVar 3) (eVar 5) (e2 bIxX (eFz (eLst (aCons (eC (.int 0)) (aCons (eC (.int 999)) (aCons (eCall (fz take) (aCons (eVar 0) (aCons (eC (.int 3)) aNil))) (aCons (eCall (fz take) (aCons (eVar 0) (aCons (eC (.int 1000)) aNil))) aNil)))))) (eCall (fz take) (aCons (eVar 0) (aCons (eC (.int 4)) aNil)))))))
    (sRet (eTup (aCons (eVar 1) (aCons (eVar 3) aNil)))))))
def secondG (take : FM) : FM := mkF 3 7
    (sSeq (sPar 3 4 (aCons eDict0 (aCons (eCall (fz take) (aCons (eVar 0) (aCons (eC (.int 4)) aNil))) aNil)))
    (sSeq (sFor (iRange rng1 (aCons (eVar 1) aNil)) (gN 5) (sSeq (sSet 6 (eCall (fz take) (aCons (eVar 0) (aCons (eC (.int 4)) aNil))))
    (sSeq (sIf (tAndM (tTru (e2 (bInX false noOp) (eVar 5) (eVar 2))) (tTru (e2 bLt (eVar 6) (eC (.int 2))))) (sSetA (eVar 3) (eVar 5) (e2 bIxX (eVar 2) (eVar 5))) sNext)
    (sSeq (sIf (tAndM (tTru (e2 (bInX false noOp) (eVar 5) (eVar 2))) (tAndM (tTru (e2 bEq (eVar 6) (eC (.int 2)))) (tTru (e2 bEq (eVar 4) (eC (.int 0)))))) (sSetA (eVar 3) (eVar 5) (e2 bMod (e2 bAdd (e2 bAdd (e2 bIxX (eVar 2) (eVar 5)) (eC (.int 1))) (eCall (fz take) (aCons (eVar 0) (aCons (eC (.int 998)) aNil)))) (eC (.int 1000)))) sNext)
    (sIf (tAndM (tTru (e2 (bInX true noOp) (eVar 5) (eVar 2))) (tTru (e2 bEq (eVar 6) (eC (.int 0))))) (sSetA (eVar 3) (eVar 5) (eCall (fz take) (aCons (eVar 0) (aCons (eC (.int 1000)) aNil)))) sNext)))))
    (sSeq (sIf (tAndM (tTru (e2 bEq (eVar 4) (eC (.int 1)))) (tTru (e2 (bNeX noOp) (eVar 2) (eFz eDict0)))) (sSeq (sSet 5 (e2 bIxX (eFz (eCall bList (aCons (eVar 2) aNil))) (eCall (fz take) (aCons (eVar 0) (aCons (eCall bLen (aCons (eVar 2) aNil)) aNil)))))
    (sSetA (eVar 3) (eVar 5) (e2 bMod (e2 bAdd (e2 bIxX (eVar 2) (eVar 5)) (eC (.int 999))) (eC (.int 1000))))) sNext)
    (sRet (eVar 3)))))
end Bag
noncomputable section
namespace PM
open PySem L2
section
variable {h g l : MH} {n k : Nat}
/-! ### places behind a heap whose length has a name -/
theorem get_appn (e : h.length = n) : (h ++ l)[n]? = l[0]? := by subst e; exact get_app_0 h l
theorem get_appn1 (e : h.length = n) : (h ++ l)[n + 1]? = l[1]? := by subst e; exact get_app_k h l 1
theorem set_appn (e : h.length = n) (o : Ob) : (h ++ l).set n o = h ++ l.set 0 o := by subst e; exact set_app_0 h l o
theorem set_appn1 (e : h.length = n) (o : Ob) : (h ++ l).set (n + 1) o = h ++ l.set 1 o := by subst e; exact set_app_k h l 1 o
theorem lst_appn (e : h.length = n) : lstAt (h ++ l) n = lstAt l 0 := by subst e; exact lst_app0 h l
theorem mut_appn (e : h.length = n) : mutAt (h ++ l) n = mutAt l 0 := by subst e; exact mut_app0 h l
theorem dct_appn (e : h.length = n) : dctAt (h ++ l) n = dctAt l 0 := by subst e; exact dct_app0 h l
theorem lst_appn1 (e : h.length = n) : lstAt (h ++ l) (n + 1) = lstAt l 1 := by subst e; exact lst_appk h l 1
theorem mut_appn1 (e : h.length = n) : mutAt (h ++ l) (n + 1) = mutAt l 1 := by subst e; exact mut_appk h l 1
theorem dct_appn1 (e : h.length = n) : dctAt (h ++ l) (n + 1) = dctAt l 1 := by subst e; exact dct_appk h l 1
theorem atI_lt {α : Type} {xs : List α} {k : Int} (h0 : 0 ≤ k) (h1 : k < xs.length) : ∃ a, atI xs k = some a ∧ a ∈ xs := by
  have e : ixN xs.length k = some k.toNat := by
    unfold ixN
    rw [if_pos h0, if_pos h1]
  have lt : k.toNat < xs.length := by omega
  exact ⟨xs[k.toNat], by simp [atI, e, lt], List.getElem_mem lt⟩
theorem atI_ints {A : List Int} {k : Int} (h0 : 0 ≤ k) (h1 : k < A.length) : ∃ a, atI (A.map W.int) k = some (.int a) ∧ a ∈ A := by
  obtain ⟨x, e, m⟩ := atI_lt (xs := A.map W.int) h0 (by simpa using h1)
  obtain ⟨a, ha, rfl⟩ := List.mem_map.mp m
  exact ⟨a, e, ha⟩
theorem ixN_nat {n : Nat} {k : Int} (h0 : 0 ≤ k) (h1 : k < n) : ixN n k = some k.toNat := by
  unfold ixN
  rw [if_pos h0, if_pos h1]
theorem map_erase (f : Int → W) : ∀ (xs : List Int) (n : Nat), (xs.map f).eraseIdx n = (xs.eraseIdx n).map f
  | [], _ => rfl
  | x :: xs, 0 => rfl
  | x :: xs, n + 1 => by simp [map_erase f xs n]
theorem pop_i {j : Nat} {xs : List Int} {k : Int} (m : mutAt h j = some (xs.map W.int)) (h0 : 0 ≤ k) (h1 : k < xs.length) : ∃ y, xs[k.toNat]? = some y ∧ bPop [.ref j, .int k] h = .ok (.int y) (h.set j (.lst ((xs.eraseIdx k.toNat).map W.int))) := by
  have lt : k.toNat < xs.length := by omega
  refine ⟨xs[k.toNat], List.getElem?_eq_getElem lt, ?_⟩
  have q := ixN_nat (n := (xs.map W.int).length) h0 (by simpa using h1)
  simp only [bPop, m, q]
  rw [List.getElem?_map, List.getElem?_eq_getElem lt]
  simp [map_erase]
/-- a pair whose second stands among what is new -/
theorem fin_pair_d {a : W} {kvs : List (Key × W)} (s : Stp h g) (el : l[k]? = some (.dct kvs)) (ha : Cls h.length a) (hc : ∀ x ∈ kvs, Cls h.length x.2) : fin h (.ok (.tup [a, .ref (h.length + k)]) (g ++ l)) = .ok (.tup [a, .vd kvs]) g := by
  refine fin_of s l _ _ ?_
  unfold fzW
  rw [if_neg (by simp)]
  dsimp only
  have lt := (List.getElem?_eq_some_iff.mp el).1
  have e1 : fzW (g ++ l) h.length (g ++ l).length 19 a = some a := fzW_cls ha
  have e2 : fzW (g ++ l) h.length (g ++ l).length 19 (.ref (h.length + k)) = some (.vd kvs) := by
    unfold fzW
    rw [if_neg (by simp)]
    dsimp only
    rw [if_neg (by rw [List.length_append, s.len]; omega), List.getElem?_append_right (by rw [s.len]; omega), s.len, Nat.add_sub_cancel_left, el]
    dsimp only
    rw [fzW_cls_d hc]
    rfl
  simp only [mapO_cons, mapO_nil, e1, e2, Option.bind_some, Option.map_some]
end
end PM
namespace Bag
open PySem L2 PM
/-- the bag at b, at most N draws behind it -/
def Bx (b N : Nat) (h : MH) : Prop := ∃ x y z : Int, h[b]? = some (.lst [.int x, .int y, .int z]) ∧ 0 ≤ y ∧ y < 2147483629 ∧ 0 ≤ z ∧ z ≤ N
/-- the bag was drawn from, all else is as it was -/
structure Bu (b N : Nat) (h h' : MH) : Prop where
  len : h'.length = h.length
  at_ : ∀ i, i ≠ b → h'[i]? = h[i]?
  bx : Bx b N h'
section
variable {b N M : Nat} {h h1 h2 l : MH}
theorem Bx.mono (B : Bx b N h) (e : N ≤ M) : Bx b M h := by
  obtain ⟨x, y, z, q, y0, y1, z0, z1⟩ := B
  exact ⟨x, y, z, q, y0, y1, z0, by omega⟩
theorem Bx.lt (B : Bx b N h) : b < h.length := by
  obtain ⟨x, y, z, e, _⟩ := B
  exact get_lt e
theorem Bx.app (B : Bx b N h) (l : MH) : Bx b N (h ++ l) := by
  have lt := B.lt
  obtain ⟨x, y, z, e, q⟩ := B
  exact ⟨x, y, z, by rw [List.getElem?_append_left lt]; exact e, q⟩
theorem Bu.mono (B : Bu b N h h1) (e : N ≤ M) : Bu b M h h1 := ⟨B.len, B.at_, B.bx.mono e⟩
theorem Bu.refl (B : Bx b N h) : Bu b N h h := ⟨rfl, fun _ _ => rfl, B⟩
theorem Bu.trans (A : Bu b N h h1) (B : Bu b M h1 h2) : Bu b M h h2 := ⟨B.len.trans A.len, fun i hi => (B.at_ i hi).trans (A.at_ i hi), B.bx⟩
theorem Bu.stp (B : Bu b N h h1) : Stp h h1 := ⟨B.len, fun i hi => by
  by_cases e : i = b
  · subst e
    obtain ⟨x, y, z, e, _⟩ := B.bx
    refine .inr fun o eo => ?_
    rw [e] at eo
    cases eo
    intro w hw
    simp only [List.mem_cons, List.not_mem_nil, or_false] at hw
    rcases hw with rfl | rfl | rfl <;> exact .int _
  · exact .inl (B.at_ i e)⟩
theorem Bu.get (B : Bu b N h h1) {i : Nat} {o : Ob} (hi : i ≠ b) (e : h[i]? = some o) : h1[i]? = some o := (B.at_ i hi).trans e
theorem Bu.app (B : Bu b N h h1) (l : MH) : Bu b N (h ++ l) (h1 ++ l) := ⟨by rw [List.length_append, List.length_append, B.len], fun i hi => by
  by_cases hl : i < h.length
  · rw [List.getElem?_append_left hl, List.getElem?_append_left (by rw [B.len]; exact hl), B.at_ i hi]
  · rw [List.getElem?_append_right (show h1.length ≤ i by rw [B.len]; omega), List.getElem?_append_right (show h.length ≤ i by omega), B.len], B.bx.app l⟩
/-- a new list made while the bag is drawn from -/
theorem Bu.fin_l (B : Bu b N h h1) (l : MH) {xs : List W} {k : Nat} (hk : k = l.length) (hc : ∀ x ∈ xs, Cls (h.length + k) x) : fin (h ++ l) (.ok (.ref (h1.length + k)) (h1 ++ (l ++ [.lst xs]))) = .ok (.vl xs) (h1 ++ l) := by
  subst hk
  have q := PM.fin_l (h := h ++ l) (g := h1 ++ l) (l := [.lst xs]) (k := 0) (B.app l).stp rfl (xs := xs) (by rw [List.length_append]; exact hc)
  rw [List.length_append, Nat.add_zero, List.append_assoc, ← B.len] at q
  exact q
/-- what is new stays behind -/
theorem Bu.cut (B : Bu b N (h ++ l) h2) (lt : b < h.length) : ∃ h1, h2 = h1 ++ l ∧ Bu b N h h1 := by
  have l2 := B.len
  rw [List.length_append] at l2
  refine ⟨h2.take h.length, ?_, ?_, fun i hi => ?_, ?_⟩
  · have : h2.drop h.length = l := by
      apply List.ext_getElem?
      intro i
      rw [List.getElem?_drop, B.at_ _ (by omega), get_app_k]
    rw [← this, List.take_append_drop]
  · rw [List.length_take]; omega
  · by_cases hl : i < h.length
    · rw [List.getElem?_take, if_pos hl, B.at_ i hi, List.getElem?_append_left hl]
    · rw [List.getElem?_eq_none (by rw [List.length_take]; omega), List.getElem?_eq_none (by omega)]
  · obtain ⟨x, y, z, e, q⟩ := B.bx
    exact ⟨x, y, z, by rw [List.getElem?_take, if_pos lt]; exact e, q⟩
end
/-- what a draw does -/
structure TakeOk (take : FM) : Prop where
  run : ∀ {b N : Nat} {h : MH} (l : MH) {m : Int}, Bx b N h → N ≤ 1000000000 → 0 < m → m < 1000000 → ∃ r h', fz take [.ref b, .int m] (h ++ l) = .ok (.int r) (h' ++ l) ∧ 0 ≤ r ∧ r < m ∧ Bu b (N + 1) h h'
theorem takeG_ok (a b c : Int) (ha : 0 ≤ a ∧ a ≤ 1000000000) (hb : 0 ≤ b ∧ b ≤ 1000000000) (hc : 0 ≤ c ∧ c ≤ 1000000000) : TakeOk (takeG a b c) := ⟨fun {bb N h0} l {m} B hN hm h9 => by
  have core : ∀ h, Bx bb N h → ∃ r h', fz (takeG a b c) [.ref bb, .int m] h = .ok (.int r) h' ∧ 0 ≤ r ∧ r < m ∧ Bu bb (N + 1) h h' := fun h B => by
    obtain ⟨x, y, z, e, y0, y1, z0, z1⟩ := B
    have em : mutAt h bb = some [.int x, .int y, .int z] := by unfold mutAt; rw [e]
    have hl := lst_of_mut em
    have lt := get_lt e
    have hm9 : m.natAbs.log2 < 9000 := by have := log2_lt64 (n := m.natAbs) (by omega); omega
    have i0 : bIxX (.ref bb) (.int 0) h = .ok (.int x) h := ixX_l hl rfl
    have s0 : putA (.ref bb) (.int 0) (.int (x / m)) h = some (h.set bb (.lst [.int (x / m), .int y, .int z])) := putA_l (n := 0) em rfl
    have s2 : putA (.ref bb) (.int 2) (.int (z + 1)) h = some (h.set bb (.lst [.int x, .int y, .int (z + 1)])) := putA_l (n := 2) em rfl
    have clo : ∀ u v t : Int, ClsO h.length (.lst [.int u, .int v, .int t]) := fun u v t w hw => by
      simp only [List.mem_cons, List.not_mem_nil, or_false] at hw
      rcases hw with rfl | rfl | rfl <;> exact .int _
    have fe : ∀ {u v t r : Int}, takeG a b c [.ref bb, .int m] h = .ok (.int r) (h.set bb (.lst [.int u, .int v, .int t])) → fz (takeG a b c) [.ref bb, .int m] h = .ok (.int r) (h.set bb (.lst [.int u, .int v, .int t])) := fun {u v t r} q => by
      show fin h (takeG a b c [.ref bb, .int m] h) = _
      rw [q]
      exact fin_set (clo u v t) (.int _)
    have bu : ∀ {u v t : Int}, 0 ≤ v → v < 2147483629 → 0 ≤ t → t ≤ (N + 1 : Nat) → Bu bb (N + 1) h (h.set bb (.lst [.int u, .int v, .int t])) := fun {u v t} a1 a2 a3 a4 =>
      ⟨List.length_set, fun i hi => List.getElem?_set_ne (fun z => hi z.symm), u, v, t, List.getElem?_set_self lt, a1, a2, a3, a4⟩
    by_cases hx : 0 < x
    · refine ⟨x % m, _, fe (u := x / m) (v := y) (t := z) ?_, Int.emod_nonneg _ (by omega), Int.emod_lt_of_pos _ hm, bu y0 y1 z0 (by omega)⟩
      simp [takeG, mkF, i0, hx, mod_ii hm, div_ii hm hm9, s0]
    · have h2 : mutAt (h.set bb (.lst [.int x, .int y, .int (z + 1)])) bb = some [.int x, .int y, .int (z + 1)] := mut_set lt
      have hl2 := lst_of_mut h2
      have a0 : bIxX (.ref bb) (.int 2) h = .ok (.int z) h := ixX_l hl rfl
      have a1 : bIxX (.ref bb) (.int 1) (h.set bb (.lst [.int x, .int y, .int (z + 1)])) = .ok (.int y) _ := ixX_l hl2 rfl
      have a2 : bIxX (.ref bb) (.int 2) (h.set bb (.lst [.int x, .int y, .int (z + 1)])) = .ok (.int (z + 1)) _ := ixX_l hl2 rfl
      have m1 : ∀ g, bMul (.int a) (.int (z + 1)) g = .ok (.int (a * (z + 1))) g := fun g => mul_small (by omega) (by omega)
      have m2 : ∀ g, bMul (.int c) (.int (z + 1)) g = .ok (.int (c * (z + 1))) g := fun g => mul_small (by omega) (by omega)
      have z9 : z + 1 ≤ 1000000001 := by omega
      have az : a * (z + 1) ≤ 1000000000 * 1000000001 := Int.mul_le_mul ha.2 z9 (by omega) (by decide)
      have az0 : 0 ≤ a * (z + 1) := Int.mul_nonneg ha.1 (by omega)
      have cz : c * (z + 1) ≤ 1000000000 * 1000000001 := Int.mul_le_mul hc.2 z9 (by omega) (by decide)
      have cz0 : 0 ≤ c * (z + 1) := Int.mul_nonneg hc.1 (by omega)
      generalize a * (z + 1) = az' at *
      generalize c * (z + 1) = cz' at *
      have p1 : ∀ g, bPow (.int (y + az' + b)) (.int 5) g = .ok (.int ((y + az' + b) ^ 5)) g := fun g => pow_ii (by decide) (by decide) (by omega)
      generalize hk : (y + az' + b) ^ 5 = k at p1
      have k0 := Int.emod_nonneg k (show (2147483647 : Int) ≠ 0 by decide)
      have k1 := Int.emod_lt_of_pos k (show (0 : Int) < 2147483647 by decide)
      have p2 : ∀ g, bPow (.int (k % 2147483647 + cz')) (.int 3) g = .ok (.int ((k % 2147483647 + cz') ^ 3)) g := fun g => pow_ii (by decide) (by decide) (by omega)
      generalize hj : (k % 2147483647 + cz') ^ 3 = j at p2
      refine ⟨j % 2147483587 / 16 % m, _, fe (u := x) (v := y) (t := z + 1) ?_, Int.emod_nonneg _ (by omega), Int.emod_lt_of_pos _ hm, bu y0 y1 (by omega) (by omega)⟩
      have d1 : ∀ (i : Int) g, bMod (.int i) (.int 2147483647) g = .ok (.int (i % 2147483647)) g := fun i g => mod_ii (by decide)
      have d2 : ∀ (i : Int) g, bMod (.int i) (.int 2147483587) g = .ok (.int (i % 2147483587)) g := fun i g => mod_ii (by decide)
      have d3 : ∀ (i : Int) g, bDiv (.int i) (.int 16) g = .ok (.int (i / 16)) g := fun i g => div_ii (by decide) (by decide)
      have d4 : ∀ (i : Int) g, bMod (.int i) (.int m) g = .ok (.int (i % m)) g := fun i g => mod_ii hm
      simp [takeG, mkF, i0, hx, s2, a0, a1, a2, m1, m2, p1, p2, d1, d2, d3, d4]
  obtain ⟨r, h2, e, r0, r1, B2⟩ := core (h0 ++ l) (B.app l)
  obtain ⟨h1, rfl, B1⟩ := B2.cut B.lt
  exact ⟨r, h1, e, r0, r1, B1⟩⟩
/-- a cell -/
theorem cellG_ok (a b : Int) {i : Nat} {h : MH} {ns : List Int} {k : Int} (e : lstAt h i = some (ns.map W.int)) (ha : a.natAbs < 2 ^ 62) (h0 : 0 ≤ k) (h9 : k < 100) : ∃ c, fz (cellG a b) [.ref i, .int k] h = .ok (.int c) h := by
  by_cases g : k < ns.length
  · obtain ⟨c, a1, a2⟩ := atI_ints (A := ns) (k := k) h0 g
    exact ⟨c, fz_ok0 (by simp [cellG, mkF, len_l e, g, ixX_l e a1]) (.int _)⟩
  · have m1 : ∀ g, bMul (.int a) (.int k) g = .ok (.int (a * k)) g := fun g => mul_small (by omega) (by omega)
    exact ⟨a * k + b, fz_ok0 (by simp [cellG, mkF, len_l e, g, m1]) (.int _)⟩
/-- a new bag -/
theorem bagG_ok (c : Int) (h : MH) : ∃ o, ow bagG [.int c] h = .ok (.ref h.length) (h ++ [o]) ∧ Bx h.length 0 (h ++ [o]) := by
  have p18 : ∀ g, bPow (.int 10) (.int 18) g = .ok (.int 1000000000000000000) g := fun g => rfl
  have d : ∀ g, bMod (.int c) (.int 2147483629) g = .ok (.int (c % 2147483629)) g := fun g => mod_ii (by decide)
  have e : bagG [.int c] h = .ok (.ref h.length) (h ++ [.lst [.int (if c - 1000000000000000000 > 0 then c - 1000000000000000000 else 0), .int (c % 2147483629), .int 0]]) := by
    simp [bagG, mkF, p18, d, line_eq]
  refine ⟨.lst [.int (if c - 1000000000000000000 > 0 then c - 1000000000000000000 else 0), .int (c % 2147483629), .int 0], ?_, _, _, _, by rw [get_app_0]; rfl, Int.emod_nonneg _ (by decide), Int.emod_lt_of_pos _ (by decide), by decide, by omega⟩
  show own h (bagG [.int c] h) = _
  rw [e]
  exact own_l0 (by simp)
end Bag
/-! Nm0: draws, names. -/
noncomputable section
namespace PM
open PySem L2 Bag
section
variable {σ : MS} {h g l : MH} {b N : Nat}
theorem erase_map {α : Type} (φ : α → W) : ∀ (xs : List α) (n : Nat), (xs.map φ).eraseIdx n = (xs.eraseIdx n).map φ
  | [], _ => rfl
  | x :: xs, 0 => rfl
  | x :: xs, n + 1 => by simp [erase_map φ xs n]
theorem erase_perm {α : Type} : ∀ {xs : List α} {n : Nat} (h : n < xs.length), (xs[n] :: xs.eraseIdx n).Perm xs
  | x :: xs, 0, _ => .refl _
  | x :: xs, n + 1, h => by
    have h' : n < xs.length := by simpa using h
    have ih := erase_perm h'
    simp only [List.getElem_cons_succ, List.eraseIdx_cons_succ]
    exact (List.Perm.swap _ _ _).trans (ih.cons x)
theorem pop_m {α : Type} (φ : α → W) {j : Nat} {xs : List α} {k : Int} (m : mutAt h j = some (xs.map φ)) (h0 : 0 ≤ k) (h1 : k < xs.length) :
    ∃ y, xs[k.toNat]? = some y ∧ bPop [.ref j, .int k] h = .ok (φ y) (h.set j (.lst ((xs.eraseIdx k.toNat).map φ))) ∧ (y :: xs.eraseIdx k.toNat).Perm xs := by
  have lt : k.toNat < xs.length := by omega
  refine ⟨xs[k.toNat], List.getElem?_eq_getElem lt, ?_, erase_perm lt⟩
  have q := ixN_nat (n := (xs.map φ).length) h0 (by simpa using h1)
  simp only [bPop, m, q]
  rw [List.getElem?_map, List.getElem?_eq_getElem lt]
  simp [erase_map]
/-- a list by a range, of a block that changes nothing -/
theorem fz_lcR {it : MS → MH → R MI} {lo : Int} {n : Nat} {vs : List Nat} {tg : GM} {t : TM} {e : EM} (p : Nat → Bool) (f : Nat → W) (hi : it σ h = .ok (itR lo n) h) (hz : n ≤ sizeLine)
    (hs : ∀ i, i < n → ∀ acc, ∃ σ1, tg (.int (lo + i)) (wipeM σ vs) (h ++ [.lst acc]) = some σ1 ∧ t σ1 (h ++ [.lst acc]) = .ok (p i) (h ++ [.lst acc]) ∧ (p i = true → e σ1 (h ++ [.lst acc]) = .ok (f i) (h ++ [.lst acc])))
    (hc : ∀ i, i < n → p i = true → Cls h.length (f i)) : fin h (eLc it vs tg t e σ h) = .ok (.vl (((List.range n).filter p).map f)) h := by
  refine fz_lc (List.range n) (fun i => .int (lo + i)) p f hi (by simp [itR]) (fun i g => ?_) (by simpa using hz) (fun a ha acc => hs a (List.mem_range.mp ha) acc) fun a ha => hc a (List.mem_range.mp ha)
  show (if i < n then _ else _) = _
  by_cases e : i < n <;> simp [e]
/-- the same without a test -/
theorem fz_lcR1 {it : MS → MH → R MI} {lo : Int} {n : Nat} {vs : List Nat} {tg : GM} {e : EM} (f : Nat → W) (hi : it σ h = .ok (itR lo n) h) (hz : n ≤ sizeLine)
    (hs : ∀ i, i < n → ∀ acc, ∃ σ1, tg (.int (lo + i)) (wipeM σ vs) (h ++ [.lst acc]) = some σ1 ∧ e σ1 (h ++ [.lst acc]) = .ok (f i) (h ++ [.lst acc]))
    (hc : ∀ i, i < n → Cls h.length (f i)) : fin h (eLc it vs tg tYesM e σ h) = .ok (.vl ((List.range n).map f)) h := by
  have q := fz_lcR (vs := vs) (tg := tg) (t := tYesM) (e := e) (fun _ => true) f hi hz (fun i hn acc => by
    obtain ⟨σ1, s1, s2⟩ := hs i hn acc
    exact ⟨σ1, s1, rfl, fun _ => s2⟩) fun i hn _ => hc i hn
  rw [List.filter_eq_self.mpr (fun _ _ => rfl)] at q
  exact q
theorem fz_lc1 {α : Type} {it : MS → MH → R MI} {mi : MI} {vs : List Nat} {tg : GM} {e : EM} (xs : List α) (φ : α → W) (f : α → W) (hi : it σ h = .ok mi h) (hf : mi.fuel = xs.length) (hw : ∀ i g, mi.nx i g = some (xs[i]?.map φ)) (hz : xs.length ≤ sizeLine)
    (hs : ∀ a ∈ xs, ∀ acc, ∃ σ1, tg (φ a) (wipeM σ vs) (h ++ [.lst acc]) = some σ1 ∧ e σ1 (h ++ [.lst acc]) = .ok (f a) (h ++ [.lst acc]))
    (hc : ∀ a ∈ xs, Cls h.length (f a)) : fin h (eLc it vs tg tYesM e σ h) = .ok (.vl (xs.map f)) h := by
  have q := fz_lc (vs := vs) (tg := tg) (t := tYesM) (e := e) xs φ (fun _ => true) f hi hf hw hz (fun a ha acc => by
    obtain ⟨σ1, s1, s2⟩ := hs a ha acc
    exact ⟨σ1, s1, rfl, fun _ => s2⟩) fun a ha _ => hc a ha
  rw [List.filter_eq_self.mpr (fun _ _ => rfl)] at q
  exact q
/-- a list by a block that draws -/
theorem lc_draw {α : Type} {it : MS → MH → R MI} {mi : MI} {vs : List Nat} {tg : GM} {t : TM} {e : EM} (xs : List α) (φ : α → W) (c : Nat) (P : Nat → List W → Prop) (hi : it σ h = .ok mi h) (hf : mi.fuel = xs.length) (hw : ∀ i g, mi.nx i g = some (xs[i]?.map φ)) (hz : xs.length ≤ sizeLine) (B : Bx b N h) (h0 : P 0 [])
    (hP : ∀ i acc, P i acc → acc.length ≤ i ∧ ∀ y ∈ acc, Cls h.length y)
    (hs : ∀ i a acc h1, xs[i]? = some a → Bu b (N + c * i) h h1 → P i acc → ∃ σ1, tg (φ a) (wipeM σ vs) (h1 ++ [.lst acc]) = some σ1 ∧ ∃ k h2, t σ1 (h1 ++ [.lst acc]) = .ok k (h2 ++ [.lst acc]) ∧ (if k = true then ∃ y h3, e σ1 (h2 ++ [.lst acc]) = .ok y (h3 ++ [.lst acc]) ∧ Bu b (N + c * (i + 1)) h h3 ∧ P (i + 1) (acc ++ [y]) else Bu b (N + c * (i + 1)) h h2 ∧ P (i + 1) acc)) :
    ∃ ys h', fin h (eLc it vs tg t e σ h) = .ok (.vl ys) h' ∧ Bu b (N + c * xs.length) h h' ∧ P xs.length ys := by
  have q := sat_lc (mi := mi) (tg := tg) (t := t) (e := e) (σ := wipeM σ vs) (j := h.length) (h := h ++ [.lst []]) (Q := fun w g => ∃ ys h', w = .ref h.length ∧ g = h' ++ [.lst ys] ∧ Bu b (N + c * xs.length) h h' ∧ P xs.length ys) xs φ
    (fun i acc g => ∃ h', g = h' ++ [.lst acc] ∧ Bu b (N + c * i) h h' ∧ P i acc) hf (fun i acc g _ => hw i g) hz (fun i acc g ⟨h', e1, B1, p⟩ => by
      subst e1
      exact ⟨by rw [mut_appn B1.len]; rfl, (hP i acc p).1⟩) ⟨h, rfl, Bu.refl (by simpa using B), h0⟩ (fun i a acc g ha ⟨h', e1, B1, p⟩ => by
      subst e1
      obtain ⟨σ1, s1, k, h2, s2, s3⟩ := hs i a acc h' ha B1 p
      refine ⟨σ1, s1, k, _, s2, ?_⟩
      cases k with
      | false => exact ⟨h2, rfl, by simpa using s3⟩
      | true =>
        simp only [if_true] at s3 ⊢
        obtain ⟨y, h3, s4, B3, p3⟩ := s3
        exact ⟨y, _, s4, by rw [mut_appn B3.len]; rfl, h3, by rw [set_appn B3.len]; rfl, B3, p3⟩) (fun acc g ⟨h', e1, B1, p⟩ => ⟨acc, h', rfl, e1, B1, p⟩)
  obtain ⟨w, g, e1, ys, h', e2, e3, B', p⟩ := q.get
  subst e2 e3
  refine ⟨ys, h', ?_, B', p⟩
  rw [ev_lc, hi]
  simp only [R.bind_ok]
  rw [e1]
  exact fin_l (k := 0) B'.stp rfl (hP _ _ p).2
/-! the same for an answer with a name -/
section
variable {r : R W}
theorem lcR1 {it : MS → MH → R MI} {lo : Int} {n : Nat} {vs : List Nat} {tg : GM} {e : EM} (hr : fin h (eLc it vs tg tYesM e σ h) = r) (f : Nat → W) (hi : it σ h = .ok (itR lo n) h) (hz : n ≤ sizeLine)
    (hs : ∀ i, i < n → ∀ acc, ∃ σ1, tg (.int (lo + i)) (wipeM σ vs) (h ++ [.lst acc]) = some σ1 ∧ e σ1 (h ++ [.lst acc]) = .ok (f i) (h ++ [.lst acc]))
    (hc : ∀ i, i < n → Cls h.length (f i)) : r = .ok (.vl ((List.range n).map f)) h := hr ▸ fz_lcR1 f hi hz hs hc
theorem lc1 {α : Type} {it : MS → MH → R MI} {mi : MI} {vs : List Nat} {tg : GM} {e : EM} (hr : fin h (eLc it vs tg tYesM e σ h) = r) (xs : List α) (φ : α → W) (f : α → W) (hi : it σ h = .ok mi h) (hf : mi.fuel = xs.length) (hw : ∀ i g, mi.nx i g = some (xs[i]?.map φ)) (hz : xs.length ≤ sizeLine)
    (hs : ∀ a ∈ xs, ∀ acc, ∃ σ1, tg (φ a) (wipeM σ vs) (h ++ [.lst acc]) = some σ1 ∧ e σ1 (h ++ [.lst acc]) = .ok (f a) (h ++ [.lst acc]))
    (hc : ∀ a ∈ xs, Cls h.length (f a)) : r = .ok (.vl (xs.map f)) h := hr ▸ fz_lc1 xs φ f hi hf hw hz hs hc
theorem lcF {α : Type} {it : MS → MH → R MI} {mi : MI} {vs : List Nat} {tg : GM} {t : TM} {e : EM} (hr : fin h (eLc it vs tg t e σ h) = r) (xs : List α) (φ : α → W) (p : α → Bool) (f : α → W) (hi : it σ h = .ok mi h) (hf : mi.fuel = xs.length) (hw : ∀ i g, mi.nx i g = some (xs[i]?.map φ)) (hz : xs.length ≤ sizeLine)
    (hs : ∀ a ∈ xs, ∀ acc, ∃ σ1, tg (φ a) (wipeM σ vs) (h ++ [.lst acc]) = some σ1 ∧ t σ1 (h ++ [.lst acc]) = .ok (p a) (h ++ [.lst acc]) ∧ (p a = true → e σ1 (h ++ [.lst acc]) = .ok (f a) (h ++ [.lst acc])))
    (hc : ∀ a ∈ xs, p a = true → Cls h.length (f a)) : r = .ok (.vl ((xs.filter p).map f)) h := hr ▸ fz_lc xs φ p f hi hf hw hz hs hc
theorem lcD {α : Type} {it : MS → MH → R MI} {mi : MI} {vs : List Nat} {tg : GM} {t : TM} {e : EM} (hr : fin h (eLc it vs tg t e σ h) = r) (xs : List α) (φ : α → W) (c : Nat) (P : Nat → List W → Prop) (hi : it σ h = .ok mi h) (hf : mi.fuel = xs.length) (hw : ∀ i g, mi.nx i g = some (xs[i]?.map φ)) (hz : xs.length ≤ sizeLine) (B : Bx b N h) (h0 : P 0 [])
    (hP : ∀ i acc, P i acc → acc.length ≤ i ∧ ∀ y ∈ acc, Cls h.length y)
    (hs : ∀ i a acc h1, xs[i]? = some a → Bu b (N + c * i) h h1 → P i acc → ∃ σ1, tg (φ a) (wipeM σ vs) (h1 ++ [.lst acc]) = some σ1 ∧ ∃ k h2, t σ1 (h1 ++ [.lst acc]) = .ok k (h2 ++ [.lst acc]) ∧ (if k = true then ∃ y h3, e σ1 (h2 ++ [.lst acc]) = .ok y (h3 ++ [.lst acc]) ∧ Bu b (N + c * (i + 1)) h h3 ∧ P (i + 1) (acc ++ [y]) else Bu b (N + c * (i + 1)) h h2 ∧ P (i + 1) acc)) :
    ∃ ys h', r = .ok (.vl ys) h' ∧ Bu b (N + c * xs.length) h h' ∧ P xs.length ys := hr ▸ lc_draw xs φ c P hi hf hw hz B h0 hP hs
theorem lcRD {it : MS → MH → R MI} {n : Nat} {vs : List Nat} {tg : GM} {e : EM} (hr : fin h (eLc it vs tg tYesM e σ h) = r) (c : Nat) (P : Nat → List W → Prop) (hi : it σ h = .ok (itR 0 n) h) (hz : n ≤ sizeLine) (B : Bx b N h) (h0 : P 0 [])
    (hP : ∀ i acc, P i acc → acc.length ≤ i ∧ ∀ y ∈ acc, Cls h.length y)
    (hs : ∀ i acc h1, i < n → Bu b (N + c * i) h h1 → P i acc → ∃ σ1, tg (.int i) (wipeM σ vs) (h1 ++ [.lst acc]) = some σ1 ∧ ∃ y h3, e σ1 (h1 ++ [.lst acc]) = .ok y (h3 ++ [.lst acc]) ∧ Bu b (N + c * (i + 1)) h h3 ∧ P (i + 1) (acc ++ [y])) :
    ∃ ys h', r = .ok (.vl ys) h' ∧ Bu b (N + c * n) h h' ∧ P n ys := by
  have q := lcD hr (List.range n) (fun i => .int i) c P hi (by simp [itR]) (fun i g => by
    show (if i < n then _ else _) = _
    by_cases e : i < n <;> simp [e]) (by simpa using hz) B h0 hP (fun i a acc h1 ha B1 p => by
    obtain ⟨lt, e⟩ := List.getElem?_eq_some_iff.mp ha
    simp at e lt
    subst e
    obtain ⟨σ1, s1, y, h3, s2, s3⟩ := hs i acc h1 lt B1 p
    exact ⟨σ1, s1, true, h1, rfl, by simpa using ⟨y, h3, s2, s3⟩⟩)
  simpa using q
end
end
end PM
namespace Bag
open PySem L2 PM
def takeH (a b : Int) : FM := mkF 2 5
    (sSeq (sIf (tTru (e2 bGt (e2 bIxX (eVar 0) (eC (.int 0))) (eC (.int 0)))) (sSeq (sSet 2 (e2 bMod (e2 bIxX (eVar 0) (eC (.int 0))) (eVar 1)))
    (sSeq (sSetA (eVar 0) (eC (.int 0)) (e2 bDiv (e2 bIxX (eVar 0) (eC (.int 0))) (eVar 1)))
    (sRet (eVar 2)))) sNext)
    (sSeq (sSetA (eVar 0) (eC (.int 2)) (e2 bAdd (e2 bIxX (eVar 0) (eC (.int 2))) (eC (.int 1))))
    (sSeq (sSet 3 (e2 bMod (e2 bAdd (e2 bAdd (e2 bMul (e2 bIxX (eVar 0) (eC (.int 1))) (eC (.int 48271))) (e2 bMul (eC (.int a)) (e2 bIxX (eVar 0) (eC (.int 2))))) (eC (.int b))) (eC (.int 2147483647))))
    (sSeq (sSet 4 (e2 bMod (e2 bPow (e2 bAdd (eVar 3) (e2 bMul (eC (.int 15485863)) (e2 bIxX (eVar 0) (eC (.int 2))))) (eC (.int 2))) (eC (.int 2147483629))))
    (sRet (e2 bMod (e2 bAdd (e2 bDiv (e2 bMod (e2 bPow (eVar 4) (eC (.int 2))) (eC (.int 2147483587))) (eC (.int 16))) (e2 bDiv (eVar 3) (eC (.int 64)))) (eVar 1)))))))
def mixedG (take : FM) : FM := mkF 2 4
    (sSeq (sSet 2 (eCall bList (aCons (eVar 1) aNil)))
    (sRet (eFz (eLc (iRange rng1 (aCons (eCall bLen (aCons (eVar 1) aNil)) aNil)) [3] (gN 3) tYesM (eAlt (eBM "list" bPop (eVar 2) (aCons (eCall (fz take) (aCons (eVar 0) (aCons (eCall bLen (aCons (eVar 2) aNil)) aNil))) aNil)) (eBM "dict" bDpop (eVar 2) (aCons (eCall (fz take) (aCons (eVar 0) (aCons (eCall bLen (aCons (eVar 2) aNil)) aNil))) aNil)))))))
def namesG (take : FM) : FM := mkF 2 9
    (sSeq (sSet 2 (eC (.str "abcdefghijklmnopqrstuvwxyz")))
    (sSeq (sAsg (gTp 2 (gCons (gN 3) (gCons (gN 4) gNil))) (eTup (aCons (eCall (fz take) (aCons (eVar 0) (aCons (eC (.int 4)) aNil))) (aCons (eCall (fz take) (aCons (eVar 0) (aCons (eC (.int 26)) aNil))) aNil))))
    (sSeq (sSet 5 (eJoin (eC (.str "")) (eFz (eLc (iRange rng1 (aCons (eC (.int 8)) aNil)) [6] (gN 6) tYesM (e2 bIxX (eVar 2) (eCall (fz take) (aCons (eVar 0) (aCons (eC (.int 26)) aNil))))))))
    (sSeq (sSet 7 (eCall (fz take) (aCons (eVar 0) (aCons (eC (.int 7)) aNil))))
    (sSeq (sSet 8 (eFz (eLc (iRange rng1 (aCons (eVar 1) aNil)) [6] (gN 6) tYesM (eFz (e2 bAdd (eFz (e2 bAdd (eFz (eSl (eVar 5) oNo (oSome (eVar 7)))) (e2 bIxX (eVar 2) (e2 bMod (e2 bAdd (eVar 4) (e2 bMul (eC (.int 7)) (eVar 6))) (eC (.int 26)))))) (eFz (eSl (eVar 5) (oSome (eVar 7)) (oSome (eC (.int 7))))))))))
    (sSeq (sIf (tTru (e2 bEq (eVar 3) (eC (.int 0)))) (sSet 8 (eFz (eLc (iRange rng1 (aCons (eVar 1) aNil)) [6] (gN 6) tYesM (e2 bIxX (eVar 2) (e2 bMod (e2 bAdd (eVar 4) (e2 bMul (eC (.int 5)) (eVar 6))) (eC (.int 26))))))) sNext)
    (sSeq (sIf (tAndM (tTru (e2 bEq (eVar 3) (eC (.int 1)))) (tTru (e2 bLt (eVar 1) (eC (.int 9))))) (sSet 8 (eFz (eLc (iRange rng1 (aCons (eVar 1) aNil)) [6] (gN 6) tYesM (eFz (eSl (eVar 5) oNo (oSome (e2 bAdd (eVar 6) (eC (.int 1))))))))) sNext)
    (sRet (eCall (fz (mixedG take)) (aCons (eVar 0) (aCons (eVar 8) aNil)))))))))))
theorem takeH_ok (a b : Int) (ha : 0 ≤ a ∧ a ≤ 1000000000) (hb : 0 ≤ b ∧ b ≤ 1000000000) : TakeOk (takeH a b) := ⟨fun {bb N h0} l {m} B hN hm h9 => by
  have core : ∀ h, Bx bb N h → ∃ r h', fz (takeH a b) [.ref bb, .int m] h = .ok (.int r) h' ∧ 0 ≤ r ∧ r < m ∧ Bu bb (N + 1) h h' := fun h B => by
    obtain ⟨x, y, z, e, y0, y1, z0, z1⟩ := B
    have em : mutAt h bb = some [.int x, .int y, .int z] := by unfold mutAt; rw [e]
    have hl := lst_of_mut em
    have lt := get_lt e
    have hm9 : m.natAbs.log2 < 9000 := by have := log2_lt64 (n := m.natAbs) (by omega); omega
    have i0 : bIxX (.ref bb) (.int 0) h = .ok (.int x) h := ixX_l hl rfl
    have s0 : putA (.ref bb) (.int 0) (.int (x / m)) h = some (h.set bb (.lst [.int (x / m), .int y, .int z])) := putA_l (n := 0) em rfl
    have s2 : putA (.ref bb) (.int 2) (.int (z + 1)) h = some (h.set bb (.lst [.int x, .int y, .int (z + 1)])) := putA_l (n := 2) em rfl
    have clo : ∀ u v t : Int, ClsO h.length (.lst [.int u, .int v, .int t]) := fun u v t w hw => by
      simp only [List.mem_cons, List.not_mem_nil, or_false] at hw
      rcases hw with rfl | rfl | rfl <;> exact .int _
    have fe : ∀ {u v t r : Int}, takeH a b [.ref bb, .int m] h = .ok (.int r) (h.set bb (.lst [.int u, .int v, .int t])) → fz (takeH a b) [.ref bb, .int m] h = .ok (.int r) (h.set bb (.lst [.int u, .int v, .int t])) := fun {u v t r} q => by
      show fin h (takeH a b [.ref bb, .int m] h) = _
      rw [q]
      exact fin_set (clo u v t) (.int _)
    have bu : ∀ {u v t : Int}, 0 ≤ v → v < 2147483629 → 0 ≤ t → t ≤ (N + 1 : Nat) → Bu bb (N + 1) h (h.set bb (.lst [.int u, .int v, .int t])) := fun {u v t} a1 a2 a3 a4 =>
      ⟨List.length_set, fun i hi => List.getElem?_set_ne (fun z => hi z.symm), u, v, t, List.getElem?_set_self lt, a1, a2, a3, a4⟩
    by_cases hx : 0 < x
    · refine ⟨x % m, _, fe (u := x / m) (v := y) (t := z) ?_, Int.emod_nonneg _ (by omega), Int.emod_lt_of_pos _ hm, bu y0 y1 z0 (by omega)⟩
      simp [takeH, mkF, i0, hx, mod_ii hm, div_ii hm hm9, s0]
    · have h2 : mutAt (h.set bb (.lst [.int x, .int y, .int (z + 1)])) bb = some [.int x, .int y, .int (z + 1)] := mut_set lt
      have hl2 := lst_of_mut h2
      have a0 : bIxX (.ref bb) (.int 2) h = .ok (.int z) h := ixX_l hl rfl
      have a1 : bIxX (.ref bb) (.int 1) (h.set bb (.lst [.int x, .int y, .int (z + 1)])) = .ok (.int y) _ := ixX_l hl2 rfl
      have a2 : bIxX (.ref bb) (.int 2) (h.set bb (.lst [.int x, .int y, .int (z + 1)])) = .ok (.int (z + 1)) _ := ixX_l hl2 rfl
      have m0 : ∀ g, bMul (.int y) (.int 48271) g = .ok (.int (y * 48271)) g := fun g => mul_small (by omega) (by omega)
      have m1 : ∀ g, bMul (.int a) (.int (z + 1)) g = .ok (.int (a * (z + 1))) g := fun g => mul_small (by omega) (by omega)
      have m2 : ∀ g, bMul (.int 15485863) (.int (z + 1)) g = .ok (.int (15485863 * (z + 1))) g := fun g => mul_small (by omega) (by omega)
      have z9 : z + 1 ≤ 1000000001 := by omega
      have az : a * (z + 1) ≤ 1000000000 * 1000000001 := Int.mul_le_mul ha.2 z9 (by omega) (by decide)
      have az0 : 0 ≤ a * (z + 1) := Int.mul_nonneg ha.1 (by omega)
      generalize a * (z + 1) = az' at *
      have d1 : ∀ (i : Int) g, bMod (.int i) (.int 2147483647) g = .ok (.int (i % 2147483647)) g := fun i g => mod_ii (by decide)
      have d2 : ∀ (i : Int) g, bMod (.int i) (.int 2147483629) g = .ok (.int (i % 2147483629)) g := fun i g => mod_ii (by decide)
      have d3 : ∀ (i : Int) g, bMod (.int i) (.int 2147483587) g = .ok (.int (i % 2147483587)) g := fun i g => mod_ii (by decide)
      have d4 : ∀ (i : Int) g, bDiv (.int i) (.int 16) g = .ok (.int (i / 16)) g := fun i g => div_ii (by decide) (by decide)
      have d5 : ∀ (i : Int) g, bDiv (.int i) (.int 64) g = .ok (.int (i / 64)) g := fun i g => div_ii (by decide) (by decide)
      have d6 : ∀ (i : Int) g, bMod (.int i) (.int m) g = .ok (.int (i % m)) g := fun i g => mod_ii hm
      generalize hk : (y * 48271 + az' + b) % 2147483647 = k
      have k0 : 0 ≤ k := by rw [← hk]; exact Int.emod_nonneg _ (by decide)
      have k1 : k < 2147483647 := by rw [← hk]; exact Int.emod_lt_of_pos _ (by decide)
      have p1 : ∀ g, bPow (.int (k + 15485863 * (z + 1))) (.int 2) g = .ok (.int ((k + 15485863 * (z + 1)) ^ 2)) g := fun g => pow_ii (by decide) (by decide) (by omega)
      generalize hj : (k + 15485863 * (z + 1)) ^ 2 % 2147483629 = j
      have j0 : 0 ≤ j := by rw [← hj]; exact Int.emod_nonneg _ (by decide)
      have j1 : j < 2147483629 := by rw [← hj]; exact Int.emod_lt_of_pos _ (by decide)
      have p2 : ∀ g, bPow (.int j) (.int 2) g = .ok (.int (j ^ 2)) g := fun g => pow_ii (by decide) (by decide) (by omega)
      refine ⟨(j ^ 2 % 2147483587 / 16 + k / 64) % m, _, fe (u := x) (v := y) (t := z + 1) ?_, Int.emod_nonneg _ (by omega), Int.emod_lt_of_pos _ hm, bu y0 y1 (by omega) (by omega)⟩
      simp [takeH, mkF, i0, hx, s2, a0, a1, a2, m0, m1, m2, d1, d2, d3, d4, d5, d6, hk, p1, hj, p2]
  obtain ⟨r, h2, e, r0, r1, B2⟩ := core (h0 ++ l) (B.app l)
  obtain ⟨h1, rfl, B1⟩ := B2.cut B.lt
  exact ⟨r, h1, e, r0, r1, B1⟩⟩
end Bag
/-! NmA: a drawn order, names. -/
namespace PM
open PySem L2
theorem Cls.mono {n m : Nat} {w : W} (c : PM.Cls n w) (e : n ≤ m) : PM.Cls m w := by
  induction c with
  | ref i hi => exact .ref i (by omega)
  | tup xs _ ih => exact .tup xs ih
  | vl xs _ ih => exact .vl xs ih
  | vd xs _ ih => exact .vd xs ih
  | vi C xs _ ih => exact .vi C xs ih
  | _ => constructor
end PM
namespace Bag
open PySem L2 PM
section
variable {take : FM} {b N : Nat} {h : MH}
theorem TakeOk.run0 (T : TakeOk take) {m : Int} (B : Bx b N h) (hN : N ≤ 1000000000) (h0 : 0 < m) (h9 : m < 1000000) : ∃ r h', fz take [.ref b, .int m] h = .ok (.int r) h' ∧ 0 ≤ r ∧ r < m ∧ Bu b (N + 1) h h' := by
  have := T.run [] B hN h0 h9
  simpa using this
theorem rng_nat {n : Nat} (e : n < 1000000) (g : MH) : rng1 [.int n] g = .ok (itR 0 n) g := by
  have := rng1_i (j := n) (h := g) (by omega) (by omega)
  simpa using this
theorem nx_nat (n i : Nat) (g : MH) : (itR 0 n).nx i g = some ((List.range n)[i]?.map fun (i : Nat) => W.int (0 + i)) := by
  show (if i < n then _ else _) = _
  by_cases e : i < n <;> simp [e]
theorem mixed_ok {α : Type} (φ : α → W) (T : TakeOk take) {xs : List α} (B : Bx b N h) (hN : N ≤ 1000000) (hx : xs.length < 10000) (hc : ∀ x ∈ xs, Cls h.length (φ x)) :
    ∃ (ys : List α) (h' : MH), fz (mixedG take) [.ref b, .vl (xs.map φ)] h = .ok (.vl (ys.map φ)) h' ∧ Bu b (N + xs.length) h h' ∧ ys.Perm xs := by
  have q := sat_lc (mi := itR 0 xs.length) (tg := gN 3) (t := tYesM) (e := eAlt (eBM "list" bPop (eVar 2) (aCons (eCall (fz take) (aCons (eVar 0) (aCons (eCall bLen (aCons (eVar 2) aNil)) aNil))) aNil)) (eBM "dict" bDpop (eVar 2) (aCons (eCall (fz take) (aCons (eVar 0) (aCons (eCall bLen (aCons (eVar 2) aNil)) aNil))) aNil)))
    (σ := [some (.ref b), some (.vl (xs.map φ)), some (.ref h.length), none]) (j := h.length + 1) (h := h ++ [.lst (xs.map φ), .lst []])
    (Q := fun w g => ∃ (ys : List α) (h' : MH), w = .ref (h.length + 1) ∧ g = h' ++ [.lst [], .lst (ys.map φ)] ∧ Bu b (N + xs.length) h h' ∧ ys.Perm xs) (List.range xs.length) (fun i => .int (0 + i))
    (fun i acc g => ∃ (h' : MH) (L A : List α), acc = A.map φ ∧ g = h' ++ [.lst (L.map φ), .lst acc] ∧ Bu b (N + i) h h' ∧ (A ++ L).Perm xs ∧ A.length = i) (by simp [itR]) (fun i acc g _ => nx_nat _ _ _) (by rw [List.length_range, line_eq]; omega) (fun i acc g ⟨h', L, A, e1, e2, B1, p, e3⟩ => by
      subst e1 e2
      refine ⟨by rw [mut_appn1 B1.len]; rfl, by simp [e3]⟩) ⟨h, xs, [], rfl, rfl, Bu.refl (by simpa using B), by simp, rfl⟩ (fun i a acc g ha ⟨h', L, A, e1, e2, B1, p, e3⟩ => by
      subst e1 e2
      obtain ⟨lt, e⟩ := List.getElem?_eq_some_iff.mp ha
      simp only [List.length_range] at lt
      have pl := p.length_eq
      rw [List.length_append] at pl
      obtain ⟨r, h2, t1, r0, r1, B2⟩ := T.run [.lst (L.map φ), .lst (A.map φ)] (m := L.length) B1.bx (by omega) (by omega) (by omega)
      have B2' : Bu b (N + (i + 1)) h h2 := B1.trans B2
      obtain ⟨y, y1, y2, y3⟩ := pop_m φ (h := h2 ++ [Ob.lst (L.map φ), .lst (A.map φ)]) (j := h.length) (xs := L) (k := r) (by rw [mut_appn B2'.len]; rfl) r0 r1
      have el : lstAt (h' ++ [Ob.lst (L.map φ), .lst (A.map φ)]) h.length = some (L.map φ) := by rw [lst_appn B1.len]; rfl
      refine ⟨[some (.ref b), some (.vl (xs.map φ)), some (.ref h.length), some (.int (0 + a))], by simp [gN], true, _, rfl, ?_⟩
      simp only [if_true]
      refine ⟨φ y, h2 ++ [.lst ((L.eraseIdx r.toNat).map φ), .lst (A.map φ)], ?_, by rw [mut_appn1 B2'.len]; rfl, h2, L.eraseIdx r.toNat, A ++ [y], by simp, by rw [set_appn1 B2'.len]; simp, B2', ?_, by simp [e3]⟩
      · have s1 : (h2 ++ [Ob.lst (L.map φ), .lst (A.map φ)]).set h.length (.lst ((L.eraseIdx r.toNat).map φ)) = h2 ++ [.lst ((L.eraseIdx r.toNat).map φ), .lst (A.map φ)] := by rw [set_appn B2'.len]; rfl
        have el2 : lstAt (h2 ++ [Ob.lst (L.map φ), .lst (A.map φ)]) h.length = some (L.map φ) := by rw [lst_appn B2'.len]; rfl
        rw [s1] at y2
        have bt : bty (.ref h.length) (h' ++ [Ob.lst (L.map φ), .lst (A.map φ)]) = some "list" := by simp [bty, el]
        simp [len_l el, t1, y2, bt]
      · rw [List.append_assoc]
        exact (List.Perm.append_left A y3).trans p) (fun acc g ⟨h', L, A, e1, e2, B1, p, e3⟩ => by
      subst e1 e2
      have pl := p.length_eq
      rw [List.length_append] at pl
      simp only [List.length_range] at e3 B1
      have : L = [] := List.eq_nil_of_length_eq_zero (by omega)
      subst this
      exact ⟨A, h', rfl, rfl, B1, by simpa using p⟩)
  obtain ⟨w, g, e1, ys, h', e2, e3, B', p⟩ := q.get
  subst e2 e3
  have st : Stp (h ++ [.lst (xs.map φ)]) (h' ++ [.lst []]) := by
    have s1 := (B'.app [.lst (xs.map φ)]).stp
    have s2 := s1.set (b := h.length) (o := .lst []) (fun _ z => nomatch z)
    rwa [set_appn B'.len] at s2
  have f1 : fin (h ++ [.lst (xs.map φ)]) (.ok (.ref (h.length + 1)) (h' ++ [.lst [], .lst (ys.map φ)])) = .ok (.vl (ys.map φ)) (h' ++ [.lst []]) := by
    have := PM.fin_l (l := [.lst (ys.map φ)]) (k := 0) (xs := ys.map φ) st rfl (fun x hx => by
      obtain ⟨y, hy, rfl⟩ := List.mem_map.mp hx
      exact PM.Cls.mono (hc y (p.mem_iff.mp hy)) (by simp))
    simpa using this
  have rg : ∀ g, rng1 [.int xs.length] g = .ok (itR 0 xs.length) g := rng_nat (by omega)
  have f2 : fin h (.ok (.vl (ys.map φ)) (h' ++ [.lst []])) = .ok (.vl (ys.map φ)) h' := fin_cls B'.stp _ (.vl _ fun x hx => by
    obtain ⟨y, hy, rfl⟩ := List.mem_map.mp hx
    exact hc y (p.mem_iff.mp hy))
  have e0 : (itR 0 xs.length).fuel = xs.length := rfl
  rw [e0] at e1
  generalize hr_ : fz (mixedG take) _ _ = r_
  apply fz_eq hr_
  clear hr_
  refine ends_seq ?_
  simp [-ev_for, -ev_lc, -ev_dc, -List.map_map, -exists_and_left, -exists_and_right, e_nx, e_rt]
  refine then_i ?_
  refine ends_ret ?_
  simp [-ev_lc, -List.map_map]
  rw [ev_lc]
  simp [-ev_for, -ev_lc, -ev_dc, -List.map_map, -exists_and_left, -exists_and_right, rg, wipeM, e1, f1]
  exact ⟨ys, h', f2, B', p⟩
end
end Bag
/-! NmB: drawn names. -/
noncomputable section
namespace Bag
open PySem L2 PM
/-- a name -/
def Nm (x : Str) : Prop := 1 ≤ x.length ∧ x.length ≤ 8 ∧ ∀ c ∈ x.cps.toList, 97 ≤ c ∧ c ≤ 122
theorem Nm.cp {x : Str} (n : Nm x) : Cp x := fun c hc => by have := n.2.2 c hc; omega
theorem letters_cps : ("abcdefghijklmnopqrstuvwxyz" : Str).cps.toList = List.range' 97 26 := by decide +kernel
def chs (c : Nat) : Str := ⟨#[c]⟩
theorem letter_at {k : Int} (h0 : 0 ≤ k) (h1 : k < 26) (h : MH) : bIxX (.str "abcdefghijklmnopqrstuvwxyz") (.int k) h = .ok (.str (chs (97 + k.toNat))) h := by
  have e : atI ("abcdefghijklmnopqrstuvwxyz" : Str).cps.toList k = some (97 + k.toNat) := by
    rw [letters_cps]
    unfold atI
    rw [ixN_nat (n := (List.range' 97 26).length) h0 (by simpa using h1)]
    have : k.toNat < 26 := by omega
    simp [this]
  exact ix_s (by decide +kernel) e
theorem chs_cps (c : Nat) : (chs c).cps.toList = [c] := rfl
theorem str_ext {x y : Str} (e : x.cps.toList = y.cps.toList) : x = y := by
  obtain ⟨⟨l⟩⟩ := x
  obtain ⟨⟨m⟩⟩ := y
  simp only at e
  rw [e]
theorem join_chs : ∀ l : List Nat, (Txt.join "" (l.map chs)).cps.toList = l := fun l => by
  rw [TL.join_eq]
  induction l with
  | nil => rfl
  | cons c l ih =>
    cases l with
    | nil => rfl
    | cons d l =>
      show (chs c ++ "" ++ Str.join "" ((d :: l).map chs)).cps.toList = _
      rw [app_cps, ih, app_cps]
      rfl
theorem join_vl {ss : List Str} {h : MH} (hz : (ss.map (·.length)).sum ≤ 16777216) : bJoin (.str "") (.vl (ss.map W.str)) h = .ok (.str (Txt.join "" ss)) h := by
  have : seqAt (.vl (ss.map W.str)) h = some (ss.map W.str) := rfl
  unfold bJoin
  rw [this, Option.bind_some, strsOf_map]
  dsimp only
  rw [if_pos]
  have e0 : ("" : Str).length = 0 := by decide +kernel
  rw [e0, Nat.mul_zero, Nat.add_zero]
  exact hz
/-- the parts of a text -/
theorem cut_to {x : Str} {a : Nat} (e : a ≤ x.length) : (cutS x none (some (a : Int))).cps.toList = x.cps.toList.take a := by
  rw [cut_cps, HT.sIx_none, HT.sIx_nat, List.drop_zero, Nat.min_eq_left e, Nat.sub_zero]
theorem cut_fromto {x : Str} {a b : Nat} (e : a ≤ x.length) (e2 : b ≤ x.length) : (cutS x (some (a : Int)) (some (b : Int))).cps.toList = (x.cps.toList.drop a).take (b - a) := by
  rw [cut_cps, HT.sIx_nat, HT.sIx_nat, Nat.min_eq_left e, Nat.min_eq_left e2]
theorem cut_from {x : Str} {a : Nat} (e : a ≤ x.length) : (cutS x (some (a : Int)) none).cps.toList = x.cps.toList.drop a := by
  rw [cut_cps, HT.sIx_nat, HT.sIx_none, Nat.min_eq_left e]
  exact List.take_of_length_le (by rw [List.length_drop, ← len_cps]; omega)
theorem nodup_range {α : Type} {f : Nat → α} : ∀ {n : Nat}, (∀ i j, i < n → j < n → f i = f j → i = j) → ((List.range n).map f).Nodup := fun {n} hf => by
  unfold List.Nodup
  rw [List.pairwise_map]
  have : (List.range n).Pairwise (· < ·) := List.pairwise_lt_range
  refine this.imp_of_mem fun {i j} hi hj lt e => ?_
  have := hf i j (List.mem_range.mp hi) (List.mem_range.mp hj) e
  omega
theorem rfl_map {α β : Type} {f : α → β} {w : β → W} {l : List α} : W.vl (l.map fun x => w (f x)) = W.vl ((l.map f).map w) := by rw [List.map_map]; rfl
section
variable {take : FM} {b N : Nat} {h : MH}
theorem names_ok (T : TakeOk take) (B : Bx b N h) (hN : N ≤ 100000) {m : Nat} (hm : m ≤ 26) :
    ∃ (ns : List Str) (h' : MH), fz (namesG take) [.ref b, .int m] h = .ok (.vl (ns.map W.str)) h' ∧ Bu b (N + 100) h h' ∧ ns.length = m ∧ ns.Nodup ∧ ∀ x ∈ ns, Nm x := by
  obtain ⟨w, h1, t1, w0, w4, B1⟩ := T.run0 (m := 4) B (by omega) (by omega) (by omega)
  obtain ⟨f, h2, t2, f0, f1, B2⟩ := T.run0 (m := 26) B1.bx (by omega) (by omega) (by omega)
  have B2' := B1.trans B2
  generalize hr_ : fz (namesG take) _ _ = r_
  apply fz_eq hr_
  clear hr_
  refine ends_seq ?_
  simp [-ev_for, -ev_lc, -ev_dc, -List.map_map, -exists_and_left, -exists_and_right, e_nx, e_rt]
  refine then_i ?_
  refine ends_seq ?_
  simp [-ev_for, -ev_lc, -ev_dc, -List.map_map, -exists_and_left, -exists_and_right, e_nx, e_rt, t1, t2, line_eq]
  refine then_i ?_
  refine ends_seq ?_
  simp [-ev_for, -ev_lc, -ev_dc, -List.map_map, -exists_and_left, -exists_and_right]
  generalize hr : fin _ (eLc _ _ _ _ _ _ _) = r
  obtain ⟨ys, h3, er, B3, cs, ecs, cl, cr⟩ := lcRD hr (n := 8) (N := N + 2) (b := b) 1 (fun i acc => ∃ cs : List Nat, acc = (cs.map chs).map W.str ∧ cs.length = i ∧ ∀ c ∈ cs, 97 ≤ c ∧ c ≤ 122) (by
    have := rng_nat (n := 8) (by omega) h2
    simpa using this) (by rw [line_eq]; omega) B2'.bx ⟨[], rfl, rfl, fun _ z => nomatch z⟩ (fun i acc ⟨cs, e1, e2, _⟩ => by
    subst e1
    refine ⟨by simp [e2], fun y hy => ?_⟩
    obtain ⟨x, _, rfl⟩ := List.mem_map.mp hy
    exact .str _) (fun i acc g hi Bi ⟨cs, e1, e2, e3⟩ => by
    obtain ⟨d, g2, t3, d0, d1, Bd⟩ := T.run [.lst acc] (m := 26) Bi.bx (by omega) (by omega) (by omega)
    refine ⟨_, rfl, .str (chs (97 + d.toNat)), g2, ?_, (Bi.trans Bd).mono (by omega), cs ++ [97 + d.toNat], by subst e1; simp, by simp [e2], fun c hc => ?_⟩
    · simp [wipeM, t3, letter_at d0 d1]
    · rcases List.mem_append.mp hc with hc | hc
      · exact e3 c hc
      · simp only [List.mem_cons, List.not_mem_nil, or_false] at hc
        omega)
  subst er ecs
  have js := join_chs cs
  have jl : (Txt.join "" (cs.map chs)).length = 8 := by rw [len_cps, js, cl]
  have jz : ((cs.map chs).map (·.length)).sum ≤ 16777216 := by
    have := sum_ones (l := cs.map chs) (fun x hx => by obtain ⟨c, _, rfl⟩ := List.mem_map.mp hx; rfl)
    rw [this, List.length_map]; omega
  generalize hst : Txt.join "" (cs.map chs) = st at js jl
  simp [-ev_for, -ev_lc, -ev_dc, -List.map_map, -exists_and_left, -exists_and_right, join_vl jz, hst]
  rw [e_nx]
  refine then_i ?_
  obtain ⟨a, h4, t4, a0, a6, B4⟩ := T.run0 (m := 7) B3.bx (by omega) (by omega) (by omega)
  refine ends_seq ?_
  simp [-ev_for, -ev_lc, -ev_dc, -List.map_map, -exists_and_left, -exists_and_right, e_nx, e_rt, t4]
  refine then_i ?_
  obtain ⟨a, rfl⟩ := Int.eq_ofNat_of_zero_le a0
  have ml : ∀ (k : Int) (i : Nat) g, 0 ≤ k → k < 10 → i < m → bMul (.int k) (.int i) g = .ok (.int (k * i)) g := fun k i g k0 k1 hi => mul_small (by omega) (by omega)
  have mo : ∀ (i : Int) g, bMod (.int i) (.int 26) g = .ok (.int (i % 26)) g := fun i g => mod_ii (by decide)
  have lt : ∀ (i : Int) g, bIxX (.str "abcdefghijklmnopqrstuvwxyz") (.int (i % 26)) g = .ok (.str (chs (97 + (i % 26).toNat))) g := fun i g => letter_at (Int.emod_nonneg _ (by decide)) (Int.emod_lt_of_pos _ (by decide)) g
  have c7 : ∀ i : Int, 97 ≤ 97 + (i % 26).toNat ∧ 97 + (i % 26).toNat ≤ 122 := fun i => by omega
  have sc : ∀ (lo hi : Option Int) g, bSl (.str st) lo hi g = .ok (.str (cutS st lo hi)) g := fun lo hi g => sl_s (by rw [line_eq]; omega)
  have q1 := cut_to (x := st) (a := a) (by omega)
  have q2 := cut_fromto (x := st) (a := a) (b := 7) (by omega) (by omega)
  have z1 : (cutS st none (some (a : Int))).length = a := by rw [len_cps, q1, List.length_take, ← len_cps]; omega
  have z2 : (cutS st (some (a : Int)) (some (7 : Int))).length = 7 - a := by rw [len_cps, show ((7 : Int)) = ((7 : Nat) : Int) from rfl, q2, List.length_take, List.length_drop, ← len_cps]; omega
  have al : ∀ c g, bAdd (.str (cutS st none (some (a : Int)))) (.str (chs c)) g = .ok (.str (cutS st none (some (a : Int)) ++ chs c)) g := fun c g => if_pos (by rw [z1, line_eq]; show a + 1 ≤ _; omega)
  have al2 : ∀ c g, bAdd (.str (cutS st none (some (a : Int)) ++ chs c)) (.str (cutS st (some (a : Int)) (some (7 : Int)))) g = .ok (.str (cutS st none (some (a : Int)) ++ chs c ++ cutS st (some (a : Int)) (some (7 : Int)))) g := fun c g => if_pos (by
    rw [app_len, z1, z2, line_eq]; show a + 1 + _ ≤ _; omega)
  have B4' := B2'.trans (B3.trans B4)
  -- the first list
  generalize hL1 : (List.range m).map (fun i : Nat => cutS st none (some (a : Int)) ++ chs (97 + ((f + 7 * i) % 26).toNat) ++ cutS st (some (a : Int)) (some (7 : Int))) = L1
  have n1 : L1.length = m ∧ L1.Nodup ∧ ∀ x ∈ L1, Nm x := by
    subst hL1
    have e : ∀ c, (cutS st none (some (a : Int)) ++ chs c ++ cutS st (some (a : Int)) (some (7 : Int))).cps.toList = st.cps.toList.take a ++ [c] ++ (st.cps.toList.drop a).take (7 - a) := fun c => by
      rw [app_cps, app_cps, q1, show ((7 : Int)) = ((7 : Nat) : Int) from rfl, q2, chs_cps]
    refine ⟨by simp, nodup_range fun i j hi hj eq => ?_, fun x hx => ?_⟩
    · have := congrArg (fun s : Str => s.cps.toList) eq
      simp only [e] at this
      have h1 := List.append_inj_left this (by simp)
      have h2 := List.append_inj_right h1 rfl
      have h3 : 97 + ((f + 7 * i) % 26).toNat = 97 + ((f + 7 * j) % 26).toNat := by simpa using h2
      omega
    · obtain ⟨i, _, rfl⟩ := List.mem_map.mp hx
      refine ⟨?_, ?_, fun c hc => ?_⟩
      · rw [app_len, app_len]; show 1 ≤ _ + 1 + _; omega
      · rw [app_len, app_len, z1, z2]; show a + 1 + _ ≤ 8; omega
      · rw [e] at hc
        rcases List.mem_append.mp hc with hc | hc
        · rcases List.mem_append.mp hc with hc | hc
          · exact cr c (js ▸ List.mem_of_mem_take hc)
          · simp only [List.mem_cons, List.not_mem_nil, or_false] at hc
            have := c7 (f + 7 * i)
            omega
        · exact cr c (js ▸ List.mem_of_mem_drop (List.mem_of_mem_take hc))
  refine ends_seq ?_
  simp [-ev_for, -ev_lc, -ev_dc, -List.map_map, -exists_and_left, -exists_and_right]
  generalize hr2 : fin _ (eLc _ _ _ _ _ _ _) = r2
  have er2 := lcR1 hr2 (n := m) (lo := 0) (fun i => .str (cutS st none (some (a : Int)) ++ chs (97 + ((f + 7 * i) % 26).toNat) ++ cutS st (some (a : Int)) (some (7 : Int)))) (by
    have := rng_nat (n := m) (by omega) h4
    simpa using this) (by rw [line_eq]; omega) (fun i hi acc => ⟨_, rfl, by
      simp [wipeM, sc, ml 7 i _ (by omega) (by omega) hi, mo, lt, al, al2]⟩) (fun i hi => .str _)
  subst er2
  have eL1 : (List.range m).map (fun i : Nat => W.str (cutS st none (some (a : Int)) ++ chs (97 + ((f + 7 * i) % 26).toNat) ++ cutS st (some (a : Int)) (some (7 : Int)))) = L1.map W.str := by
    rw [← hL1, List.map_map]; rfl
  rw [eL1]
  simp [-ev_for, -ev_lc, -ev_dc, -List.map_map, -exists_and_left, -exists_and_right]
  rw [e_nx]
  refine then_i ?_
  have B5 : Bu b (N + 11) h h4 := B4'.mono (by omega)
  refine ends_seq (ends_upd 8 (fun w h' => h' = h4 ∧ ∃ L : List Str, w = .vl (L.map W.str) ∧ L.length = m ∧ L.Nodup ∧ ∀ x ∈ L, Nm x) ?_ ?_)
  · by_cases hw : w = 0
    · simp [-ev_for, -ev_lc, -ev_dc, -List.map_map, -exists_and_left, -exists_and_right, hw]
      generalize hr3 : fin _ (eLc _ _ _ _ _ _ _) = r3
      have er3 := lcR1 hr3 (n := m) (lo := 0) (fun i => .str (chs (97 + ((f + 5 * i) % 26).toNat))) (by
        have := rng_nat (n := m) (by omega) h4
        simpa using this) (by rw [line_eq]; omega) (fun i hi acc => ⟨_, rfl, by
          simp [wipeM, ml 5 i _ (by omega) (by omega) hi, mo, lt]⟩) (fun i hi => .str _)
      subst er3
      simp only [R.st_ok]
      rw [e_nx]
      refine ⟨_, ⟨rfl, (List.range m).map (fun i : Nat => chs (97 + ((f + 5 * i) % 26).toNat)), rfl_map, by simp, nodup_range fun i j hi hj eq => ?_, fun x hx => ?_⟩, rfl⟩
      · have := congrArg (fun s : Str => s.cps.toList) eq
        simp only [chs_cps, List.cons.injEq, and_true] at this
        omega
      · obtain ⟨i, _, rfl⟩ := List.mem_map.mp hx
        refine ⟨Nat.le_refl 1, show 1 ≤ 8 by omega, fun c hc => ?_⟩
        have hc : c = 97 + ((f + 5 * i) % 26).toNat := by simpa [chs_cps] using hc
        have := c7 (f + 5 * i)
        omega
    · simp [-ev_for, -ev_lc, -ev_dc, -List.map_map, -exists_and_left, -exists_and_right, hw]
      rw [e_nx]
      exact ⟨.vl (L1.map W.str), ⟨rfl, L1, rfl, n1⟩, rfl⟩
  · rintro w' h' ⟨rfl, L, rfl, nL⟩
    refine then_i ?_
    simp only [List.set_cons_zero, List.set_cons_succ]
    refine ends_seq (ends_upd 8 (fun w g => g = h' ∧ ∃ L : List Str, w = .vl (L.map W.str) ∧ L.length = m ∧ L.Nodup ∧ ∀ x ∈ L, Nm x) ?_ ?_)
    · by_cases hw : w = 1 ∧ m < 9
      · have hm9 : (m : Int) < 9 := by omega
        simp [-ev_for, -ev_lc, -ev_dc, -List.map_map, -exists_and_left, -exists_and_right, hw.1, hm9]
        generalize hr3 : fin _ (eLc _ _ _ _ _ _ _) = r3
        have er3 := lcR1 hr3 (n := m) (lo := 0) (fun i => .str (cutS st none (some ((i : Int) + 1)))) (by
          have := rng_nat (n := m) (by omega) h'
          simpa using this) (by rw [line_eq]; omega) (fun i hi acc => ⟨_, rfl, by
            simp [wipeM, sc]⟩) (fun i hi => .str _)
        subst er3
        simp only [R.st_ok]
        rw [e_nx]
        have ce : ∀ i : Nat, i < m → (cutS st none (some ((i : Int) + 1))).cps.toList = st.cps.toList.take (i + 1) := fun i hi => cut_to (x := st) (a := i + 1) (by omega)
        have le : ∀ i : Nat, i < m → (cutS st none (some ((i : Int) + 1))).length = i + 1 := fun i hi => by rw [len_cps, ce i hi, List.length_take, ← len_cps]; omega
        refine ⟨_, ⟨rfl, (List.range m).map (fun i : Nat => cutS st none (some ((i : Int) + 1))), rfl_map, by simp, nodup_range fun i j hi hj eq => ?_, fun x hx => ?_⟩, rfl⟩
        · have := congrArg Str.length eq
          rw [le i hi, le j hj] at this
          omega
        · obtain ⟨i, hi, rfl⟩ := List.mem_map.mp hx
          have hi := List.mem_range.mp hi
          refine ⟨by rw [le i hi]; omega, by rw [le i hi]; omega, fun c hc => ?_⟩
          rw [ce i hi] at hc
          exact cr c (js ▸ List.mem_of_mem_take hc)
      · have e : (decide (w = 1) && decide ((m : Int) < 9)) = false := by
          rw [Bool.and_eq_false_iff, decide_eq_false_iff_not, decide_eq_false_iff_not]
          omega
        by_cases hw1 : w = 1
        · have hm9 : ¬ (m : Int) < 9 := by omega
          simp [-ev_for, -ev_lc, -ev_dc, -List.map_map, -exists_and_left, -exists_and_right, hw1, hm9]
          rw [e_nx]
          exact ⟨.vl (L.map W.str), ⟨rfl, L, rfl, nL⟩, rfl⟩
        · simp [-ev_for, -ev_lc, -ev_dc, -List.map_map, -exists_and_left, -exists_and_right, hw1]
          rw [e_nx]
          exact ⟨.vl (L.map W.str), ⟨rfl, L, rfl, nL⟩, rfl⟩
    · rintro w' h' ⟨rfl, L, rfl, nL⟩
      refine then_i ?_
      simp only [List.set_cons_zero, List.set_cons_succ]
      obtain ⟨ys, h6, t6, B6, p⟩ := mixed_ok (take := take) (h := h') W.str T (xs := L) B5.bx (by omega) (by omega) (fun x _ => .str x)
      simp [-ev_for, -ev_lc, -ev_dc, -List.map_map, -exists_and_left, -exists_and_right, e_nx, e_rt, e_exc, t6]
      rw [fn_rt]
      have B7 := B5.trans B6
      refine ⟨ys, h6, ?_, B7.mono (by omega), by rw [p.length_eq, nL.1], p.nodup_iff.mpr nL.2.1, fun x hx => nL.2.2 x (p.mem_iff.mp hx)⟩
      have := fin_cls B7.stp [] (w := .vl (ys.map W.str)) (.vl _ fun x hx => by obtain ⟨y, _, rfl⟩ := List.mem_map.mp hx; exact .str _)
      simpa using this
end
end Bag
/-! ShF: what can be shown, dicts too. -/
noncomputable section
namespace Wb
open PySem L2 PM Bag
theorem rp_bool (k : Bool) (n : Nat) : Rp 8 n (.bool k) := by
  refine ⟨?_, ?_, rfl, ?_, ?_⟩
  · simp [PyData.canLay0]
  · simp [PyData.leavesShort]
  · cases k <;> simp [PyData.weight]
  · simp [PyData.depth]
theorem get_l {g l : MH} {r : Nat} {o : Ob} (e : g[r]? = some o) : (g ++ l)[r]? = some o := by
  rw [List.getElem?_append_left (List.getElem?_eq_some_iff.mp e).1]; exact e
/-- data that can be shown, dicts too -/
structure Rq (k n : Nat) (d : PyData) : Prop where
  lf : d.leavesShort 30 = true
  sh : d.showable = true
  wt : d.weight ≤ k
  dp : d.depth ≤ n
theorem rq_of {k n : Nat} {d : PyData} (r : Rp k n d) : Rq k n d := ⟨r.lf, r.sh, r.wt, r.dp⟩
section
variable {k n k' n' : Nat} {xs : List PyData}
theorem Rq.mono {d : PyData} (r : Rq k n d) (e1 : k ≤ k') (e2 : n ≤ n') : Rq k' n' d := ⟨r.lf, r.sh, by have := r.wt; omega, by have := r.dp; omega⟩
theorem Rq.list (h : ∀ x ∈ xs, Rq k n x) : Rq (xs.length * (k + 1)) (n + 1) (.list xs) := ⟨by simpa [PyData.leavesShort] using leaves_all fun x hx => (h x hx).lf,
  by simpa [PyData.showable] using show_all fun x hx => (h x hx).sh, by simpa [PyData.weight] using weight_all k fun x hx => (h x hx).wt, by simpa [PyData.depth] using depth_all fun x hx => (h x hx).dp⟩
theorem Rq.tuple (h : ∀ x ∈ xs, Rq k n x) : Rq (xs.length * (k + 1)) (n + 1) (.tuple xs) := ⟨by simpa [PyData.leavesShort] using leaves_all fun x hx => (h x hx).lf,
  by simpa [PyData.showable] using show_all fun x hx => (h x hx).sh, by simpa [PyData.weight] using weight_all k fun x hx => (h x hx).wt, by simpa [PyData.depth] using depth_all fun x hx => (h x hx).dp⟩
theorem Rq.d0 : Rq 20 1 (.dict []) := ⟨by decide +kernel, by decide +kernel, by decide +kernel, by decide +kernel⟩
theorem Rq.d1 {i : Int} (h : 0 ≤ i ∧ i ≤ 4) : Rq 50 1 (.dict [(.str "late", .int i)]) := by
  obtain rfl | rfl | rfl | rfl | rfl : i = 0 ∨ i = 1 ∨ i = 2 ∨ i = 3 ∨ i = 4 := by omega
  all_goals exact ⟨by decide +kernel, by decide +kernel, by decide +kernel, by decide +kernel⟩
end
theorem mapO_up {α β : Type} {f g : α → Option β} : ∀ {xs : List α} {ds : List β}, (∀ x ∈ xs, ∀ d, f x = some d → g x = some d) → mapO f xs = some ds → mapO g xs = some ds
  | [], ds, _, e => e
  | x :: xs, ds, q, e => by
    rw [mapO_cons] at e ⊢
    obtain ⟨d, e1, e⟩ := Option.bind_eq_some_iff.mp e
    obtain ⟨ds', e2, e⟩ := Option.bind_eq_some_iff.mp e
    rw [q x (.head _) d e1, mapO_up (fun y hy => q y (.tail _ hy)) e2]
    exact e
section
variable {G l : MH} {K D K' D' : Nat} {x : W} {xs : List W}
theorem mapO_same {α β : Type} {f g : α → Option β} : ∀ {xs : List α} {ds es : List β}, (∀ x ∈ xs, ∀ d d', f x = some d → g x = some d' → d = d') → mapO f xs = some ds → mapO g xs = some es → ds = es
  | [], ds, es, _, e, e' => by cases e; cases e'; rfl
  | x :: xs, ds, es, q, e, e' => by
    rw [mapO_cons] at e e'
    obtain ⟨d, e1, e⟩ := Option.bind_eq_some_iff.mp e
    obtain ⟨ds', e2, e⟩ := Option.bind_eq_some_iff.mp e
    obtain ⟨d2, f1, e'⟩ := Option.bind_eq_some_iff.mp e'
    obtain ⟨es', f2, e'⟩ := Option.bind_eq_some_iff.mp e'
    cases e
    cases e'
    rw [q x (.head _) d d2 e1 f1, mapO_same (fun y hy => q y (.tail _ hy)) e2 f2]
theorem dataE_same : ∀ (n : Nat) (w : W) (d d' : PyData), dataW G n w = some d → dataE G n w = some d' → d = d' := by
  intro n
  induction n with
  | zero => intro w d d' e e'; cases w <;> simp_all [dataW, dataE]
  | succ n ih =>
    intro w d d' e e'
    cases w with
    | tup xs =>
      simp only [dataW] at e
      simp only [dataE] at e'
      obtain ⟨ds, e1, rfl⟩ := Option.map_eq_some_iff.mp e
      obtain ⟨es, e2, rfl⟩ := Option.map_eq_some_iff.mp e'
      rw [mapO_same (fun x _ d d' => ih x d d') e1 e2]
    | vl xs =>
      simp only [dataW] at e
      simp only [dataE] at e'
      obtain ⟨ds, e1, rfl⟩ := Option.map_eq_some_iff.mp e
      obtain ⟨es, e2, rfl⟩ := Option.map_eq_some_iff.mp e'
      rw [mapO_same (fun x _ d d' => ih x d d') e1 e2]
    | ref i =>
      simp only [dataW] at e
      simp only [dataE] at e'
      obtain ⟨xs, e1, e⟩ := Option.bind_eq_some_iff.mp e
      split at e'
      · rename_i ys eo
        have : lstAt G i = some ys := by unfold lstAt; rw [eo]
        rw [this] at e1
        cases e1
        obtain ⟨ds, e1, rfl⟩ := Option.map_eq_some_iff.mp e
        obtain ⟨es, e2, rfl⟩ := Option.map_eq_some_iff.mp e'
        rw [mapO_same (fun x _ d d' => ih x d d') e1 e2]
      · rename_i kvs eo
        unfold lstAt at e1
        rw [eo] at e1
        cases e1
      · cases e'
    | _ => simp_all [dataW, dataE]
theorem dataE_up {G G' : MH} (up : ∀ (i : Nat) (o : Ob), G[i]? = some o → (∀ b, o ≠ .lst b) ∧ (∀ b, o ≠ .dct b) ∨ G'[i]? = some o) : ∀ (n : Nat) (w : W) (d : PyData), dataE G n w = some d → dataE G' n w = some d := by
  intro n
  induction n with
  | zero => intro w d e; cases w <;> first | exact e | (simp [dataE] at e)
  | succ n ih =>
    intro w d e
    cases w with
    | tup xs =>
      simp only [dataE] at e ⊢
      obtain ⟨ds, e', rfl⟩ := Option.map_eq_some_iff.mp e
      rw [mapO_up (fun x _ d => ih x d) e']; rfl
    | vl xs =>
      simp only [dataE] at e ⊢
      obtain ⟨ds, e', rfl⟩ := Option.map_eq_some_iff.mp e
      rw [mapO_up (fun x _ d => ih x d) e']; rfl
    | vd kvs =>
      simp only [dataE] at e ⊢
      obtain ⟨ds, e', rfl⟩ := Option.map_eq_some_iff.mp e
      rw [mapO_up (fun x _ d q => by
        obtain ⟨d', q1, rfl⟩ := Option.map_eq_some_iff.mp q
        rw [ih _ _ q1]; rfl) e']; rfl
    | ref i =>
      simp only [dataE] at e ⊢
      split at e
      · rename_i xs eo
        obtain ⟨ds, e', rfl⟩ := Option.map_eq_some_iff.mp e
        rcases up i _ eo with z | z
        · exact absurd rfl (z.1 xs)
        · rw [z]
          dsimp only
          rw [mapO_up (fun x _ d => ih x d) e']; rfl
      · rename_i kvs eo
        obtain ⟨ds, e', rfl⟩ := Option.map_eq_some_iff.mp e
        rcases up i _ eo with z | z
        · exact absurd rfl (z.2 kvs)
        · rw [z]
          dsimp only
          rw [mapO_up (fun x _ d q => by
            obtain ⟨d', q1, rfl⟩ := Option.map_eq_some_iff.mp q
            rw [ih _ _ q1]; rfl) e']; rfl
      · cases e
    | _ => first | exact e | (simp [dataE] at e)
theorem dataE_flat {w : W} {d : PyData} (e : flatD w = some d) (n : Nat) : dataE G n w = some d := by
  unfold flatD at e
  split at e <;> first | (cases e; cases n <;> rfl) | cases e
/-- a value with data is shown -/
theorem shownE {d : PyData} (r : Rq K D d) (e : dataE G 20 x = some d) (hk : K ≤ 400000) (hd : D ≤ 60) : bReprE [x] G = .ok (.str d.shown) G := by
  have z := PyData.shown_le 30 (by omega) d r.lf
  have wt := r.wt
  have dp := r.dp
  have sz : d.shown.length ≤ sizeLine := by rw [line_eq]; omega
  have sw : shownW d G = .ok (.str d.shown) G := by
    unfold shownW
    rw [if_pos ⟨r.sh, by omega, sz⟩]
  have st : bReprD [x] G = .ok (.str d.shown) G ∨ bReprD [x] G = .stuck := by
    unfold bReprD
    dsimp only
    cases ed : dctW G x with
    | some kvs =>
      dsimp only
      cases e2 : dictD kvs with
      | none => exact .inr rfl
      | some ds =>
        have m : mapO (fun kv : Key × W => (dataE G 19 kv.2).map fun d => (keyD kv.1, d)) kvs = some ds := mapO_up (fun kv _ d q => by
          obtain ⟨d', q1, rfl⟩ := Option.map_eq_some_iff.mp q
          rw [dataE_flat q1]; rfl) e2
        have de : dataE G 20 x = some (.dict ds) := by
          unfold dctW at ed
          split at ed
          · rename_i i
            simp only [dataE] at e ⊢
            unfold dctAt at ed
            split at ed
            · rename_i q
              cases ed
              rw [q]
              simp only [m, Option.map_some]
            · rename_i q
              rw [q] at e
              cases e
            · cases ed
          · cases ed
            simp only [dataE, m, Option.map_some]
          · cases ed
        rw [de] at e
        cases e
        left
        dsimp only
        rw [if_pos ⟨r.sh, by omega, sz⟩]
    | none =>
      dsimp only
      unfold bRepr
      dsimp only
      cases e2 : dataW G 20 x with
      | none => exact .inr rfl
      | some d' =>
        have de := dataE_same 20 x d' d e2 e
        subst de
        dsimp only
        split
        · exact .inl rfl
        · exact .inr rfl
  unfold bReprE
  rcases st with q | q
  · rw [q]
  · rw [q]
    dsimp only
    rw [e]
    exact sw
/-- can be shown in a heap -/
structure ShE (K D : Nat) (G : MH) (x : W) : Prop where
  get : ∃ d, Rq K D d ∧ ∀ n, D ≤ n → dataE G n x = some d
theorem ShE.of {d : PyData} (r : Rp K D d) (e : ∀ n, dataE G n x = some d) : ShE K D G x := ⟨d, rq_of r, fun n _ => e n⟩
theorem ShE.str {y : Str} (c : Cp y) (l : y.length ≤ K) : ShE K 0 G (.str y) := .of (.str c l) fun n => by cases n <;> rfl
theorem ShE.non : ShE 20 0 G .non := .of (d := .none) ⟨by decide +kernel, by decide +kernel, rfl, by decide +kernel, by decide +kernel⟩ fun n => by cases n <;> rfl
theorem ShE.bl (k : Bool) : ShE 20 0 G (.bl k) := .of ((rp_bool k 0).mono (by omega) (by omega)) fun n => by cases n <;> rfl
theorem ShE.zero : ShE 20 0 G (.int 0) := .of (d := .int 0) ⟨by decide, by decide +kernel, by decide, by decide +kernel, by decide +kernel⟩ fun n => by cases n <;> rfl
theorem ShE.five : ShE 20 0 G (.int 5) := .of (d := .int 5) ⟨by decide, by decide +kernel, by decide, by decide +kernel, by decide +kernel⟩ fun n => by cases n <;> rfl
theorem ShE.mono (s : ShE K D G x) (e1 : K ≤ K') (e2 : D ≤ D') : ShE K' D' G x := by
  obtain ⟨d, r, e⟩ := s.get
  exact ⟨d, r.mono e1 e2, fun n hn => e n (by omega)⟩
theorem ShE.all : ∀ {xs : List W}, (∀ x ∈ xs, ShE K D G x) → ∃ ds : List PyData, ds.length = xs.length ∧ (∀ d ∈ ds, Rq K D d) ∧ ∀ n, D ≤ n → mapO (dataE G n) xs = some ds
  | [], _ => ⟨[], rfl, (fun _ z => nomatch z), fun _ _ => rfl⟩
  | x :: xs, h => by
    obtain ⟨d, r, e⟩ := (h x (.head _)).get
    obtain ⟨ds, l, rs, es⟩ := ShE.all fun y hy => h y (.tail _ hy)
    refine ⟨d :: ds, by simp [l], fun z hz => ?_, fun n hn => by rw [mapO_cons, e n hn, es n hn]; rfl⟩
    rcases List.mem_cons.mp hz with rfl | hz
    · exact r
    · exact rs z hz
theorem ShE.list {i : Nat} (e : G[i]? = some (.lst xs)) (h : ∀ x ∈ xs, ShE K D G x) : ShE (xs.length * (K + 1)) (D + 1) G (.ref i) := by
  obtain ⟨ds, l, rs, es⟩ := ShE.all h
  refine ⟨.list ds, by rw [← l]; exact .list rs, fun n hn => ?_⟩
  obtain ⟨n, rfl⟩ : ∃ k, n = k + 1 := ⟨n - 1, by omega⟩
  simp only [dataE, e, es n (by omega), Option.map_some]
theorem ShE.tup (h : ∀ x ∈ xs, ShE K D G x) : ShE (xs.length * (K + 1)) (D + 1) G (.tup xs) := by
  obtain ⟨ds, l, rs, es⟩ := ShE.all h
  refine ⟨.tuple ds, by rw [← l]; exact .tuple rs, fun n hn => ?_⟩
  obtain ⟨n, rfl⟩ : ∃ k, n = k + 1 := ⟨n - 1, by omega⟩
  simp only [dataE, es n (by omega), Option.map_some]
theorem ShE.vl (h : ∀ x ∈ xs, ShE K D G x) : ShE (xs.length * (K + 1)) (D + 1) G (.vl xs) := by
  obtain ⟨ds, l, rs, es⟩ := ShE.all h
  refine ⟨.list ds, by rw [← l]; exact .list rs, fun n hn => ?_⟩
  obtain ⟨n, rfl⟩ : ∃ k, n = k + 1 := ⟨n - 1, by omega⟩
  simp only [dataE, es n (by omega), Option.map_some]
theorem ShE.d0 {i : Nat} (e : G[i]? = some (.dct [])) : ShE 20 1 G (.ref i) := ⟨.dict [], .d0, fun n hn => by
  obtain ⟨n, rfl⟩ : ∃ k, n = k + 1 := ⟨n - 1, by omega⟩
  simp only [dataE, e]
  rfl⟩
theorem ShE.d1 {i : Nat} {k : Int} (h : 0 ≤ k ∧ k ≤ 4) (e : G[i]? = some (.dct [(.inr "late", .int k)])) : ShE 50 1 G (.ref i) := ⟨.dict [(.str "late", .int k)], .d1 h, fun n hn => by
  obtain ⟨n, rfl⟩ : ∃ k, n = k + 1 := ⟨n - 1, by omega⟩
  simp only [dataE, e]
  cases n <;> rfl⟩
theorem ShE.repr (s : ShE K D G x) (hk : K ≤ 400000) (hd : D ≤ 20) : ∃ s, bReprE [x] G = .ok (.str s) G := by
  obtain ⟨d, r, e⟩ := s.get
  exact ⟨d.shown, shownE r (e 20 hd) hk (by omega)⟩
theorem ShE.up {G' : MH} (s : ShE K D G x) (up : ∀ (i : Nat) (o : Ob), G[i]? = some o → (∀ b, o ≠ .lst b) ∧ (∀ b, o ≠ .dct b) ∨ G'[i]? = some o) : ShE K D G' x := by
  obtain ⟨d, r, e⟩ := s.get
  exact ⟨d, r, fun n hn => dataE_up up n x d (e n hn)⟩
theorem ShE.app (s : ShE K D G x) (l : MH) : ShE K D (G ++ l) x := s.up fun i o e => .inr (get_l e)
/-- a list of one, new or frozen, is shown alike -/
theorem ShE.one (s : ShE K D G x) (hk : K ≤ 100000) (hd : D ≤ 18) {r : Nat} (e : G[r]? = some (.lst [x])) : ∃ s, bReprE [.ref r] G = .ok (.str s) G ∧ bReprE [.vl [x]] G = .ok (.str s) G := by
  obtain ⟨d, rd, ed⟩ := s.get
  have rp : Rq (1 * (K + 1)) (D + 1) (.list [d]) := Rq.list (xs := [d]) fun y hy => by rw [List.mem_singleton.mp hy]; exact rd
  have m : mapO (dataE G 19) [x] = some [d] := by
    rw [mapO_cons, ed 19 (by omega)]
    rfl
  refine ⟨_, shownE rp ?_ (by omega) (by omega), shownE rp ?_ (by omega) (by omega)⟩
  · simp only [dataE, e, m, Option.map_some]
  · simp only [dataE, m, Option.map_some]
end
end Wb
/-! Sm68: starred elements of displays; a list taken apart into its first and the rest. -/
noncomputable section
namespace PM
open PySem PySem.Spec L2
open PyProof.Rows hiding St
section
variable {X : Cx} {Wx : WX} {pos : Pos}
/-- the things of a list or a tuple -/
def seqW (h : MH) : W → Option (List W)
  | .tup xs => some xs
  | w => lstW h w
def aStar (m : EM) (n : AM) : AM := fun σ h => (m σ h).bind fun w h1 => match seqW h1 w with
  | some xs => (n σ h1).bind fun ws h2 => .ok (xs ++ ws) h2
  | none => .stuck
theorem rls_app {K : PySem.W.Frag} {b : Bs} : ∀ {xs ys : List W} {us vs : List V}, Rls K b xs us → Rls K b ys vs → Rls K b (xs ++ ys) (us ++ vs)
  | [], _, _, _, .nil, r => r
  | _ :: _, _, _, _, .cons a r, q => .cons a (rls_app r q)
theorem sa_star {e : Expr} {es : List Expr} {me : EM} {n : AM} {p : Pos} (ha : SE X Wx e me) (hr : SA X Wx es n) (hs : starEach (.Starred e p :: es) X.env = (true, eval e X.env) :: starEach es X.env := by rfl) : SA X Wx (.Starred e p :: es) (aStar me n) := by
  refine ⟨pa_imp (StX.pa_star ha.pe hr.pa hs) fun σ H Q ⟨b, h, σm, e, S, l, q⟩ => ?_⟩
  refine ⟨b, h, σm, e, S, l, (Post.bind q).mono fun v H1 ⟨c, w, g, e, x, s, r, p⟩ => ?_⟩
  cases eq : seqW g w with
  | none => rw [eq] at p; exact p.elim
  | some xs =>
    rw [eq] at p
    dsimp only at p
    subst e
    have key : ∃ a us, v = .ref a ∧ (SqT X.K c.H a us ∨ SqL X.K c.H a us) ∧ Rls X.K c xs us := by
      cases w with
      | tup ys =>
        cases eq
        cases r with
        | tup a _ us hs rr => exact ⟨a, us, rfl, .inl hs, rr⟩
      | _ =>
        obtain ⟨a, us, rfl, hs, rx⟩ := s.listW r eq
        exact ⟨a, us, rfl, .inr hs, rx⟩
    obtain ⟨a, us, rfl, hs, rx⟩ := key
    refine ⟨a, us, rfl, hs, c, g, σm, rfl, s, l.ext x, (Post.bind p).mono fun vs H2 ⟨c2, ws, g2, e2, x2, s2, r2, p2⟩ => ?_⟩
    subst e2
    exact p2.here s2 (rls_app (rx.ext x2) r2)
/-- (x, *y) = a list -/
def gHead (K : PySem.W.Frag) (i j : Nat) : TG := fun v σ H Q => ∃ a z zs, v = .ref a ∧ SqL K H a (z :: zs) ∧ zs.length ≤ 16000 ∧ ∀ D, H D = none → Q ((σ.set i (some z)).set j (some (.ref D))) (upd H D (.lst zs))
theorem pg_head {i j : Nat} {x y : Str} {px py ps : Pos} {k : Nat} (hc : X.calm = true) (hN : X.N.Nodup) (hi : X.N[i]? = some x) (hj : X.N[j]? = some y) (hx : Loc X.env.scope x) (hy : Loc X.env.scope y)
    (hf : X.fn x = true ∨ X.env.scope.names.lookup x = some .local) (hg : X.fn y = true ∨ X.env.scope.names.lookup y = some .local)
    (ha : assignEach [.Name x px, .Starred (.Name y py) ps] X.env = [(false, assign (.Name x px) X.env), (true, assign (.Name y py) X.env)] := by rfl) :
    PG X (.Tuple [.Name x px, .Starred (.Name y py) ps] k pos) (gHead X.K i j) := by
  refine ⟨fun pins s σ H v u Q I r hw => ?_⟩
  obtain ⟨a, z, zs, e1, hq, hl, hw⟩ := hw
  subst e1
  cases r
  obtain ⟨its, rv, pl, hz⟩ := I.list hq
  have hl' : s.heap.IsList a its.toArray := by
    obtain ⟨o, m, e, c, d, q⟩ := pl
    exact ⟨o, e, c, m, q⟩
  cases rv with
  | @cons _ z' _ zs' r1 rr =>
    have lz := rr.length
    have hh := I.ok.hd hc
    rw [PyProof.Rows.assign_Tuple]
    refine wpAny_bind (wpAny_standAt ?_)
    unfold unpack
    rw [ha]
    refine wpAny_bind (wpAny_holding ?_)
    have hlt : a ≠ s.heap.objs.size := by obtain ⟨o, ho, _⟩ := hl'; exact Nat.ne_of_lt (Heap.lt_size ho)
    show wpAny _ _ (unpackItems (.ref a) 2 (some 1)) _ _ _
    unfold unpackItems
    refine wpAny_bind ?_
    unfold notIterableAtAll
    refine wpAny_bind (wpAny_specialOf hl'.typeIs PySem.F.slot_list_iter.lookup ?_)
    refine wpAny_pure ?_
    simp only [Bool.false_eq_true, if_false]
    refine wpAny_bind (wpAny_holding (wpAny_pyIter_list hl' ?_))
    refine wpAny_bind (wpAny_holding (PySem.W.kun_draw hlt 1 0 _ _ ⟨_, Heap.get?_push_size _ rfl, rfl, rfl⟩ (hl'.push _) (by simp) fun h₁ hit₁ hs₁ => ?_))
    have hl₁ : h₁.IsList a (z' :: zs').toArray := (hl'.push _).extBut hs₁.extBut hlt
    rw [Nat.zero_add] at hit₁
    have hit₁' := hit₁
    obtain ⟨oi, hoi, _⟩ := hit₁'
    have hl₁' := hl₁
    obtain ⟨ol, hol, _⟩ := hl₁'
    have sz : (z' :: zs').toArray.size ≤ sizeLine := by rw [PySem.sizeLine_eq]; simp; omega
    show wpAny _ _ _ _ _ _
    refine wpAny_bind (wpAny_holding (PySem.W.kun_collect (s := { s with heap := h₁ }) (T := "list_iterator") (.inr (.inr (.inl rfl))) (Walks.list (A := X.A.in1) hh s.heap.objs.size a hlt (z' :: zs').toArray) (fun j u st => st.1.typeIs) (k := 1) (by simp) ⟨hit₁, hl₁⟩ (Heap.lt_size hoi) (Heap.lt_size hol) (fun h₂ tk hk => ?_) sz))
    have he : Heap.ExtBut s.heap.objs.size s.heap h₂ := fun b o hb e => hk b o hb (hs₁.extBut b o hb (Heap.get?_push_of_some _ e))
    have I1 : Inv X pins σ H { s with heap := h₂, toks := tk } := I.kept (t' := tk) fun b o e => he b o (Nat.ne_of_lt (Heap.lt_size e)) e
    have hfr : H h₂.objs.size = none := I1.hok.fresh (Nat.le_refl _)
    have I2 : Inv X pins σ (upd H h₂.objs.size (.lst zs)) { s with heap := h₂.push { cls := .type "list", data := .seq zs'.toArray }, toks := tk } := I1.laid (t' := tk) (fun b u e => Heap.get?_push_of_some _ e) (Nat.le_refl _) ⟨by rw [PySem.sizeLine_eq]; omega, zs', 0, rr, Heap.get?_push_size _ rfl⟩
    show wpAny _ _ (if zs'.length < 0 then _ else _) _ _ _
    rw [if_neg (Nat.not_lt_zero _)]
    show wpAny _ _ (newList (zs'.take (zs'.length - 0)) >>= fun d => pure ([z'] ++ [d] ++ zs'.drop (zs'.length - 0))) _ _ _
    rw [Nat.sub_zero, List.take_length, List.drop_length]
    refine wpAny_bind (wpAny_newList (wpAny_pure ?_) (by rw [PySem.sizeLine_eq]; omega))
    show wpAny _ _ (assignInOrder [assign (.Name x px) X.env, assign (.Name y py) X.env] [z', .ref h₂.objs.size]) _ _ _
    refine assignInOrder_cons (wpAny_assign_Name (store_ok I2 hN hi hx r1 (fun s2 J2 => ?_) hf))
    refine assignInOrder_cons (wpAny_assign_Name (store_ok (v := .ref h₂.objs.size) J2 hN hj hy rfl (fun s3 J3 => ?_) hg))
    exact assignInOrder_nil ⟨_, _, J3, hw _ hfr⟩
/-- x, *y = m -/
def sHead (i j : Nat) (m : EM) : SM := fun σ h => (m σ h).st σ fun w h1 => match lstW h1 w with
  | some (v :: vs) => if vs.length ≤ 16000 then .nx ((σ.set i (some v)).set j (some (.ref h1.length))) (h1 ++ [.lst vs]) else .stuck
  | _ => .stuck
theorem ss_head {i j : Nat} {x y : Str} {px py ps pt : Pos} {k : Nat} {e : Expr} {me : EM} (hc : X.calm = true) (hN : X.N.Nodup) (hi : X.N[i]? = some x) (hj : X.N[j]? = some y) (hx : Loc X.env.scope x) (hy : Loc X.env.scope y) (he : SE X Wx e me)
    (hs : swapsWithSole [.Tuple [.Name x px, .Starred (.Name y py) ps] k pt] e pos.line X.env = pure false := by rfl) (hw : swappedStores [.Tuple [.Name x px, .Starred (.Name y py) ps] k pt] e X.env = pure none := by rfl)
    (h1 : (assignEach [.Tuple [.Name x px, .Starred (.Name y py) ps] k pt] X.env).map (·.2) = [assign (.Tuple [.Name x px, .Starred (.Name y py) ps] k pt) X.env] := by rfl)
    (hf : X.fn x = true ∨ X.env.scope.names.lookup x = some .local := by first | exact .inl rfl | exact .inr rfl | assumption) (hg : X.fn y = true ∨ X.env.scope.names.lookup y = some .local := by first | exact .inl rfl | exact .inr rfl | assumption)
    (ha : assignEach [.Name x px, .Starred (.Name y py) ps] X.env = [(false, assign (.Name x px) X.env), (true, assign (.Name y py) X.env)] := by rfl) :
    SS X Wx (.Assign [.Tuple [.Name x px, .Starred (.Name y py) ps] k pt] e pos) (sHead i j me) := by
  refine ⟨ps_imp (ps_asg he.pe (pg_head hc hN hi hj hx hy hf hg ha) hs hw h1) fun D σ H ⟨b, h, σm, e, S, l, q⟩ => ?_⟩
  refine ⟨b, h, σm, e, S, l, (PostS.st (rel := Rl X.K) l q).mono fun v H1 ⟨c, w, g', e, x, s, r, p⟩ => ?_⟩
  subst e
  cases el : lstW g' w with
  | none => rw [el] at p; exact p.elim
  | some ws =>
    rw [el] at p
    cases ws with
    | nil => exact p.elim
    | cons w0 ws =>
      dsimp only at p
      by_cases hz : ws.length ≤ 16000
      case neg => rw [if_neg hz] at p; exact p.elim
      rw [if_pos hz] at p
      obtain ⟨a, us, rfl, hs, rr⟩ := s.listW r el
      cases rr with
      | @cons _ z _ zs r1 rr =>
        refine ⟨a, z, zs, rfl, hs, by rw [← rr.length]; exact hz, fun D hD => ?_⟩
        obtain ⟨ex, S2, r2⟩ := s.pushL hD rr
        exact p (c.push D (.lst zs)) _ ex S2 ((((l.ext x).ext ex).set i (r1.ext ex)).set j r2)
section
variable {σ : MS} {h : MH}
@[simp] theorem ev_star (m : EM) (n : AM) : aStar m n σ h = (m σ h).bind fun w h1 => match seqW h1 w with
  | some xs => (n σ h1).bind fun ws h2 => .ok (xs ++ ws) h2
  | none => .stuck := rfl
@[simp] theorem ev_head (i j : Nat) (m : EM) : sHead i j m σ h = (m σ h).st σ fun w h1 => match lstW h1 w with
  | some (v :: vs) => if vs.length ≤ 16000 then .nx ((σ.set i (some v)).set j (some (.ref h1.length))) (h1 ++ [.lst vs]) else .stuck
  | _ => .stuck := rfl
end
end
end PM
/-! Sm71: a clause that sets a name to a display. -/
noncomputable section
namespace PM
open PySem PySem.Spec L2
open PyProof.Rows hiding St
/-- name = [..] -/
def hkN (j : Nat) (ks : List HE) : Xn → SM := fun x σ h => match hesW ks x with
  | some ws => if ws.length ≤ sizeLine then .nx (σ.set j (some (.ref h.length))) (h ++ [.lst ws]) else .stuck
  | none => .stuck
theorem hkN_nx (j : Nat) (ks : List HE) (x : Xn) (σ : MS) (h : MH) (y : Xn) (σ2 : MS) (h2 : MH) : hkN j ks x σ h ≠ .exc y σ2 h2 := by
  unfold hkN
  split
  · split <;> (intro z; cases z)
  · intro z; cases z
section
variable {X : Cx}
theorem hk_setL {i j : Nat} {y : Str} {es : List Expr} {ks : List HE} {p p' py : Pos} (hN : X.N.Nodup) (hj : X.N[j]? = some y) (hx : Loc X.env.scope y) (h : HesOk X i es ks) (hs : swapsWith (.List es p) (some (.Name y py)) p'.line X.env = pure false := by rfl) (hf : X.fn y = true ∨ X.env.scope.names.lookup y = some .local := by first | exact .inl rfl | exact .inr rfl | assumption) : HkS X (some i) [.Assign [.Name y py] (.List es p) p'] (hkN j ks) := ⟨fun a oe cls d pn z f => by
  obtain ⟨ta, p1, q1⟩ := hes_pa h a oe cls d pn z f
  refine pss_imp (pss_one (ps_set (X := X.suite a ((a, oe) :: pn)) hN hj hx (pe_lst p1) hs hf)) fun D σ H ⟨b, h, σm, x, eH, S, s, si, ec, rf, q⟩ => ?_
  subst eH
  unfold hkN at q
  cases e : hesW ks x with
  | none => rw [e] at q; exact q.elim
  | some ws =>
    rw [e] at q
    dsimp only at q
    split at q
    · rename_i hz
      refine q1 b σ x ws _ (si i rfl) ec rf e fun vs rv => ⟨by rw [← rv.length]; exact hz, fun p hp => ?_⟩
      obtain ⟨ex, S2, r2⟩ := S.pushL hp rv
      exact q _ _ ex S2 ((s.ext ex).set j r2)
    · exact q.elim⟩
end
end PM
/-! Sm72: xs[a:b] = another list. -/
noncomputable section
namespace L2
open PySem PySem.Spec PyProof.Rows
section
variable {X : Cx} {o : Expr} {to : TE} {lo hi : Option Expr} {tl th : TO} {pos p2 : Pos}
def gSlc (to : TE) (tl th : TO) : TG := fun v σ H Q => to σ H fun x H1 => tl σ H1 fun l H2 => th σ H2 fun u H3 => ∃ (p b : Addr) (xs ys : List V) (a c : Int), x = .ref p ∧ v = .ref b ∧ p ≠ b ∧ l = some a ∧ u = some c ∧ H3 p = some (.lst xs) ∧ H3 b = some (.lst ys) ∧ 0 ≤ a ∧ a ≤ c ∧ c ≤ xs.length ∧ xs.length + ys.length ≤ sizeLine ∧ Q σ (upd H3 p (.lst (xs.take a.toNat ++ ys ++ xs.drop c.toNat)))
theorem part_int {v : Value} {o : Option Int} {a : Int} (p : IsPart v o) (e : o = some a) : RelV (.int a) v := by
  subst e
  cases p with
  | int i t => exact ⟨t, rfl⟩
theorem pg_slc (ho : PE X o to) (hl : PO X lo tl) (hu : PO X hi th)
    (ha : ∀ v, assign (.Subscript o (.Slice lo hi none p2) pos) X.env v = (do
      let ov ← holding [v] (eval o X.env)
      let iv ← holding [v, ov] (eval (.Slice lo hi none p2) X.env)
      standAt pos
      holding [v, ov, iv] (setItem ov iv v)
      release [iv, v, ov] []) := by intro _; rfl) : PG X (.Subscript o (.Slice lo hi none p2) pos) (gSlc to tl th) := by
  refine ⟨fun pins s σ H v u Q I r h => ?_⟩
  rw [ha]
  refine wpAny_bind (wpAny_holding (thn (ho.run pins s σ H _ I h) fun ov s1 ⟨x, H1, I1, r1, q1⟩ => ?_))
  refine wpAny_bind (wpAny_holding (wpAny_Slice (thn (hl.run pins s1 σ H1 _ I1 q1) fun vl s2 ⟨l, H2, I2, pl, q2⟩ => thn (hu.run pins s2 σ H2 _ I2 q2) fun vu s3 ⟨u', H3, I3, pu, q3⟩ => ?_)))
  rw [evalPart_none]
  refine wpAny_pure ?_
  have I4 : Inv X pins σ H3 { s3 with heap := s3.heap.push { cls := .type "slice", data := .fields #[vl, vu, .none] } } := I3.kept (t' := s3.toks) fun b ob q => Heap.get?_push_of_some _ q
  obtain ⟨p, b, xs, ys, a, c, rfl, rfl, ne, el, eu, hp, hb, h0, hac, hc, hz, q⟩ := q3
  cases r
  cases r1
  refine wpAny_bind (wpAny_standAt (wpAny_bind (wpAny_holding (set_slice I4 hp hb ne (Heap.IsSliceOf.new ..) (part_int pl el) (part_int pu eu) h0 hac hc hz fun s5 I5 => ?_))))
  exact wpAny_release ⟨σ, _, I5, q⟩
end
end L2
namespace PM
open PySem PySem.Spec L2
open PyProof.Rows hiding St
/-- xs[a:b] = ys, both lists of the heap -/
def sSlA (mo : EM) (ml mh : OM) (mv : EM) : SM := fun σ h => (mv σ h).st σ fun v h1 => (mo σ h1).st σ fun o h2 => (ml σ h2).st σ fun a h3 => (mh σ h3).st σ fun c h4 => match v, o, a, c with
  | .ref j, .ref i, some a, some c => match mutAt h4 i, mutAt h4 j with
    | some xs, some ys => if i ≠ j ∧ 0 ≤ a ∧ a ≤ c ∧ c ≤ xs.length ∧ xs.length + ys.length ≤ sizeLine then .nx σ (h4.set i (.lst (xs.take a.toNat ++ ys ++ xs.drop c.toNat))) else .stuck
    | _, _ => .stuck
  | _, _, _, _ => .stuck
section
variable {X : Cx} {Wx : WX} {a e : Expr} {lo hi : Option Expr} {ma me : EM} {ml mh : OM} {pos p2 pos' : Pos}
theorem ss_slA (ho : SE X Wx a ma) (hl : SO X Wx lo ml) (hh : SO X Wx hi mh) (he : SE X Wx e me) (hs : swapsWithSole [.Subscript a (.Slice lo hi none p2) pos] e pos'.line X.env = pure false := by rfl) (hw : swappedStores [.Subscript a (.Slice lo hi none p2) pos] e X.env = pure none := by rfl)
    (h1 : (assignEach [.Subscript a (.Slice lo hi none p2) pos] X.env).map (·.2) = [assign (.Subscript a (.Slice lo hi none p2) pos) X.env] := by rfl)
    (hx : ∀ v, assign (.Subscript a (.Slice lo hi none p2) pos) X.env v = (do
      let ov ← holding [v] (eval a X.env)
      let iv ← holding [v, ov] (eval (.Slice lo hi none p2) X.env)
      standAt pos
      holding [v, ov, iv] (setItem ov iv v)
      release [iv, v, ov] []) := by intro _; rfl) : SS X Wx (.Assign [.Subscript a (.Slice lo hi none p2) pos] e pos') (sSlA ma ml mh me) := by
  refine ⟨ps_imp (ps_asg he.pe (pg_slc ho.pe hl.po hh.po hx) hs hw h1) fun D σ H ⟨b, h, σm, eH, S, l, q⟩ => ?_⟩
  refine ⟨b, h, σm, eH, S, l, (PostS.st (rel := Rl X.K) l q).mono fun v H1 ⟨c1, w, g1, e1, x1, s1, r1, p1⟩ => ?_⟩
  refine ⟨c1, g1, σm, e1, s1, l.ext x1, (PostS.st (rel := Rl X.K) (l.ext x1) p1).mono fun o H2 ⟨c2, wo, g2, e2, x2, s2, r2, p2⟩ => ?_⟩
  refine ⟨c2, g2, σm, e2, s2, (l.ext x1).ext x2, (PostS.st (rel := rEqO) ((l.ext x1).ext x2) p2).mono fun i H3 ⟨c3, wi, g3, e3, x3, s3, r3, p3⟩ => ?_⟩
  refine ⟨c3, g3, σm, e3, s3, ((l.ext x1).ext x2).ext x3, (PostS.st (rel := rEqO) (((l.ext x1).ext x2).ext x3) p3).mono fun j H4 ⟨c4, wj, g4, e4, x4, s4, r4, p4⟩ => ?_⟩
  subst e4
  subst r3
  subst r4
  have r2 := (r2.ext x3).ext x4
  have r1 := ((r1.ext x2).ext x3).ext x4
  split at p4
  · cases r1; cases r2
    split at p4
    · rename_i xs ys hx hy
      split at p4
      · rename_i hc
        obtain ⟨hij, h0, hac, hcl, hz⟩ := hc
        obtain ⟨vs, a1, rr, lx⟩ := s4.mut hx
        obtain ⟨us, a2, ru, ly⟩ := s4.mut hy
        obtain ⟨x5, s5⟩ := s4.putL hx (Rls.append (Rls.append (rr.take _) ru) (rr.drop _))
        refine ⟨_, _, vs, us, _, _, rfl, rfl, ?_, rfl, rfl, a1, a2, h0, hac, by rw [← rr.length]; exact hcl, by rw [← rr.length, ← ru.length]; exact hz, p4 _ σ x5 s5 ((((l.ext x1).ext x2).ext x3).ext x4 |>.ext x5)⟩
        have gx : ∀ {i : Nat} {xs : List W}, mutAt g4 i = some xs → g4[i]? = some (.lst xs) := fun {i xs} e => by
          unfold mutAt at e
          split at e
          · rename_i q
            cases e
            exact q
          · cases e
        exact fun z => hij (s4.inj _ _ _ _ (gx hx) (gx hy) rfl rfl z)
      · exact p4.elim
    · exact p4.elim
  · exact p4.elim
end
end PM
/-! Sm73: xs.remove(k) of ints. -/
noncomputable section
namespace PM
open PySem PySem.Spec L2
open PyProof.Rows hiding St
def bRem (ws : List W) (h : MH) : R W := match ws with
  | [.ref i, .int k] => match mutAt h i with
    | some xs => match intsOf xs with
      | some ns => if k ∈ ns then .ok .non (h.set i (.lst ((ns.erase k).map W.int))) else .stuck
      | none => .stuck
    | none => .stuck
  | _ => .stuck
section
variable {X : Cx} {Wx : WX}
theorem cs_remove : CallS X Wx (.builtin "list.remove") bRem := .mt mt_remove fun σ b h ws vs Q S r q => by
  unfold bRem at q
  split at q
  · rename_i i k
    cases r with
    | cons r1 rr => cases rr with
      | cons r2 rr => cases rr; cases r1 with
        | ref _ hi =>
          cases r2
          split at q
          · rename_i xs e
            obtain ⟨us, h1, rx, _⟩ := S.mut e
            split at q
            · rename_i ns en
              split at q
              · rename_i hk
                have eu := intsOf_ok rx en
                subst eu
                obtain ⟨j, j1, j2, j3, j4⟩ := first_at hk
                obtain ⟨ex, S2⟩ := S.putL2 e (rls_ints (ns.erase k))
                exact ⟨_, _, rfl, _, ns, k, j, rfl, rfl, h1, j2, j3, by rw [j4]; exact q _ _ ex S2 .non⟩
              · exact q.elim
            · exact q.elim
          · exact q.elim
  · exact q.elim
end
end PM
/-! Sm74: max and min of a tuple of ints. -/
noncomputable section
namespace PM
open PySem PySem.Spec L2
open PyProof.Rows hiding St
section
variable {prog : Program} {w : World} {A : Around} {E : Value → Shared → Prop} {s : Shared} {l : Addr} {xs : Array (Int × Tok)} {its : List Value} {ns : List Int}
theorem iter_intTup {Q : Value → Shared → Prop} (hl : s.heap.IsTuple l (intItems xs))
    (h : ∀ s₂ : Shared, s₂ = { s with heap := s.heap.push { cls := .type "tuple_iterator", data := .fields #[.ref l, .int 0 0] } } →
      (s₂.heap.IsTupleIter s.heap.objs.size l 0 ∧ s₂.heap.IsTuple l (intItems xs)) → (∀ b ∈ [s.heap.objs.size, l], b < s₂.heap.objs.size) → l ≠ s.heap.objs.size → Q (.ref s.heap.objs.size) s₂) :
    wpAny (model prog w) A (pyIter (.ref l)) Q E s := by
  have hlt : l < s.heap.objs.size := by obtain ⟨_, e, _⟩ := hl; exact Heap.lt_size e
  refine wpAny_pyIter_tuple hl (h _ rfl ⟨⟨_, Heap.get?_push_size _ rfl, rfl, rfl⟩, hl.push _⟩ (fun b hb => ?_) (Nat.ne_of_lt hlt))
  show b < (s.heap.push _).objs.size
  rw [Heap.size_push]
  rcases List.mem_cons.mp hb with rfl | hb
  · exact Nat.lt_succ_self _
  · rcases List.mem_cons.mp hb with rfl | hb
    · exact Nat.lt_succ_of_lt hlt
    · cases hb
theorem old_keptT {h' : Heap} (hk : ∀ b o, b ∉ [s.heap.objs.size] → (s.heap.push { cls := .type "tuple_iterator", data := .fields #[.ref l, .int 0 0] }).get? b = some o → h'.get? b = some o) :
    ∀ b o, s.heap.get? b = some o → h'.get? b = some o := fun b o e => by
  refine hk b o (fun hm => ?_) (Heap.get?_push_of_some _ e)
  rcases List.mem_cons.mp hm with e1 | hm
  · exact absurd (e1 ▸ Heap.lt_size e) (Nat.lt_irrefl _)
  · cases hm
theorem max_intTup {Q : Value → Shared → Prop} (hh : A.handled = none) (hl : s.heap.IsTuple l (intItems xs)) (hne : 0 < xs.size)
    (h : ∀ v h' tk, (intItems xs)[argBest (fun i j => decide (numAt xs i > numAt xs j)) (xs.size - 1)]? = some v → (∀ b o, s.heap.get? b = some o → h'.get? b = some o) → Q v { s with heap := h', toks := tk }) :
    wpAny (model prog w) A (call (.builtin "max") [.ref l]) Q E s := by
  refine call_max_walk (iter_intTup hl fun s₂ e st hfp hlI => ?_)
  subst e
  refine ⟨_, _, _, _, _, _, _, rfl, Walks.tuple (A := A.in1) hh _ l hlI (intItems xs), st, hfp, by simpa [intItems] using hne, CmpOf.ints_gt (numAt xs) (fun _ _ => intItems_at), fun v h' tk hP hk => ?_⟩
  exact h v h' tk (by simpa [intItems] using hP) (old_keptT hk)
theorem min_intTup {Q : Value → Shared → Prop} (hh : A.handled = none) (hl : s.heap.IsTuple l (intItems xs)) (hne : 0 < xs.size)
    (h : ∀ v h' tk, (intItems xs)[argBest (fun i j => decide (numAt xs i < numAt xs j)) (xs.size - 1)]? = some v → (∀ b o, s.heap.get? b = some o → h'.get? b = some o) → Q v { s with heap := h', toks := tk }) :
    wpAny (model prog w) A (call (.builtin "min") [.ref l]) Q E s := by
  refine call_min_walk (iter_intTup hl fun s₂ e st hfp hlI => ?_)
  subst e
  refine ⟨_, _, _, _, _, _, _, rfl, Walks.tuple (A := A.in1) hh _ l hlI (intItems xs), st, hfp, by simpa [intItems] using hne, CmpOf.ints_lt (numAt xs) (fun _ _ => intItems_at), fun v h' tk hP hk => ?_⟩
  exact h v h' tk (by simpa [intItems] using hP) (old_keptT hk)
theorem max_rawT {Q : Value → Shared → Prop} (hh : A.handled = none) (hl : s.heap.IsTuple l its.toArray) (hi : IntsAre its ns) (hne : 0 < ns.length)
    (h : ∀ h' tk M t', (∀ b o, s.heap.get? b = some o → h'.get? b = some o) → M ∈ ns → (∀ a, a ∈ ns → a ≤ M) → Q (.int M t') { s with heap := h', toks := tk }) : wpAny (model prog w) A (call (.builtin "max") [.ref l]) Q E s := by
  obtain ⟨xs, e⟩ := hi.allInts.items
  have hn : numsOf (intItems xs).toList = ns := by rw [← e]; exact hi.numsOf
  rw [nums_intItems] at hn
  subst hn
  rw [e] at hl
  have hsz : 0 < xs.size := by simpa using hne
  refine max_intTup hh hl hsz fun v h' tk hv hk => ?_
  obtain ⟨t, rfl⟩ := intItems_at hv
  obtain ⟨h1, h2⟩ := argBest_gt (numAt xs) (xs.size - 1)
  refine h h' tk _ t hk ?_ fun a ha => ?_
  · rw [numAt_eq]; exact PySem.getD_mem (by rw [List.length_map, Array.length_toList]; omega)
  · obtain ⟨j, hj, rfl⟩ := mem_getD ha
    rw [List.length_map, Array.length_toList] at hj
    rw [← numAt_eq]; exact h2 j (by omega)
theorem min_rawT {Q : Value → Shared → Prop} (hh : A.handled = none) (hl : s.heap.IsTuple l its.toArray) (hi : IntsAre its ns) (hne : 0 < ns.length)
    (h : ∀ h' tk M t', (∀ b o, s.heap.get? b = some o → h'.get? b = some o) → M ∈ ns → (∀ a, a ∈ ns → M ≤ a) → Q (.int M t') { s with heap := h', toks := tk }) : wpAny (model prog w) A (call (.builtin "min") [.ref l]) Q E s := by
  obtain ⟨xs, e⟩ := hi.allInts.items
  have hn : numsOf (intItems xs).toList = ns := by rw [← e]; exact hi.numsOf
  rw [nums_intItems] at hn
  subst hn
  rw [e] at hl
  have hsz : 0 < xs.size := by simpa using hne
  refine min_intTup hh hl hsz fun v h' tk hv hk => ?_
  obtain ⟨t, rfl⟩ := intItems_at hv
  obtain ⟨h1, h2⟩ := argBest_lt (numAt xs) (xs.size - 1)
  refine h h' tk _ t hk ?_ fun a ha => ?_
  · rw [numAt_eq]; exact PySem.getD_mem (by rw [List.length_map, Array.length_toList]; omega)
  · obtain ⟨j, hj, rfl⟩ := mem_getD ha
    rw [List.length_map, Array.length_toList] at hj
    rw [← numAt_eq]; exact h2 j (by omega)
end
section
variable {X : Cx} {Wx : WX}
def rMaxT (K : PySem.W.Frag) : List V → Hp → VK → Prop := fun vs H Q => ∃ (a : Addr) (ns : List Int), vs = [V.ref a] ∧ SqT K H a (ns.map V.int) ∧ 0 < ns.length ∧ ∀ m, m ∈ ns → (∀ y, y ∈ ns → y ≤ m) → Q (.int m) H
def rMinT (K : PySem.W.Frag) : List V → Hp → VK → Prop := fun vs H Q => ∃ (a : Addr) (ns : List Int), vs = [V.ref a] ∧ SqT K H a (ns.map V.int) ∧ 0 < ns.length ∧ ∀ m, m ∈ ns → (∀ y, y ∈ ns → m ≤ y) → Q (.int m) H
theorem cr_maxT (hc : X.calm = true) : CallR X (.builtin "max") (rMaxT X.K) := by
  intro pins s σ H vs us Q I r h
  obtain ⟨a, ns, rfl, hs, hne, q⟩ := h
  obtain ⟨its, rv, hl, _⟩ := I.tuple hs
  rw [Vals.ref1 r]
  exact max_rawT (I.ok.hd hc) hl rv.ints hne fun h' tk m t' hk h1 h2 => ⟨.int _, H, I.kept hk, ⟨_, rfl⟩, q m h1 h2⟩
theorem cr_minT (hc : X.calm = true) : CallR X (.builtin "min") (rMinT X.K) := by
  intro pins s σ H vs us Q I r h
  obtain ⟨a, ns, rfl, hs, hne, q⟩ := h
  obtain ⟨its, rv, hl, _⟩ := I.tuple hs
  rw [Vals.ref1 r]
  exact min_rawT (I.ok.hd hc) hl rv.ints hne fun h' tk m t' hk h1 h2 => ⟨.int _, H, I.kept hk, ⟨_, rfl⟩, q m h1 h2⟩
def bExtrT (f : Int → List Int → Int) (ws : List W) (h : MH) : R W := match ws with
  | [.tup xs] => match intsOf xs with
    | some (k :: ks) => .ok (.int (f k ks)) h
    | _ => .stuck
  | ws => bExtr f ws h
theorem cs_maxT0 (hc : X.calm = true) : CallS X Wx (.builtin "max") (fun ws h => match ws with
  | [.tup xs] => match intsOf xs with
    | some (k :: ks) => .ok (.int (maxI k ks)) h
    | _ => .stuck
  | _ => .stuck) := .of (cr_maxT hc) fun σ b h ws vs Q S r q => by
  split at q
  · rename_i xs
    obtain ⟨v, rfl, r1⟩ := rls1 r
    split at q
    · rename_i k ks e2
      cases r1 with
      | tup a _ us hs rr =>
        rw [intsOf_ok rr e2] at hs
        refine ⟨a, k :: ks, rfl, hs, by simp, fun m h1 h2 => ?_⟩
        have e : m = maxI k ks := Int.le_antisymm (by
          rcases List.mem_cons.mp h1 with z | z
          · rw [z]; exact (maxI_ub ks k).1
          · exact (maxI_ub ks k).2 m z) (h2 _ (maxI_mem ks k))
        rw [e]; exact q.here S (.int _)
    · exact q.elim
  · exact q.elim
theorem cs_minT0 (hc : X.calm = true) : CallS X Wx (.builtin "min") (fun ws h => match ws with
  | [.tup xs] => match intsOf xs with
    | some (k :: ks) => .ok (.int (minI k ks)) h
    | _ => .stuck
  | _ => .stuck) := .of (cr_minT hc) fun σ b h ws vs Q S r q => by
  split at q
  · rename_i xs
    obtain ⟨v, rfl, r1⟩ := rls1 r
    split at q
    · rename_i k ks e2
      cases r1 with
      | tup a _ us hs rr =>
        rw [intsOf_ok rr e2] at hs
        refine ⟨a, k :: ks, rfl, hs, by simp, fun m h1 h2 => ?_⟩
        have e : m = minI k ks := Int.le_antisymm (h2 _ (minI_mem ks k)) (by
          rcases List.mem_cons.mp h1 with z | z
          · rw [z]; exact (minI_lb ks k).1
          · exact (minI_lb ks k).2 m z)
        rw [e]; exact q.here S (.int _)
    · exact q.elim
  · exact q.elim
theorem cs_maxT (hc : X.calm = true) : CallS X Wx (.builtin "max") (bExtrT maxI) := ⟨fun pins s σ b h ws vs us Q I S r rv q => by
  unfold bExtrT at q
  split at q
  · exact (cs_maxT0 hc).run pins s σ b h _ vs us Q I S r rv q
  · exact (cs_maxL hc).run pins s σ b h _ vs us Q I S r rv q⟩
theorem cs_minT (hc : X.calm = true) : CallS X Wx (.builtin "min") (bExtrT minI) := ⟨fun pins s σ b h ws vs us Q I S r rv q => by
  unfold bExtrT at q
  split at q
  · exact (cs_minT0 hc).run pins s σ b h _ vs us Q I S r rv q
  · exact (cs_minL hc).run pins s σ b h _ vs us Q I S r rv q⟩
end
end PM
/-! Sm75: list.extend by a tuple. -/
noncomputable section
namespace PySem
open Sem (wp)
open AutoSeq1
theorem list_extend_tupleX (l : Addr) (items : Array Value) (n : Nat) (b : Addr) (items2 : Array Value) (n2 : Nat) (o : Obj) (oc : o.cls = .type "tuple") (od : o.data = .seq items2 n2) (hs0 : ¬(!items.isEmpty && Builtin.List.listTooLong (items.size + items2.size)) = true) (hs1 : items.size ≤ sizeLine) (hs2 : items.size + items2.size ≤ sizeLine + 1) :
    Meets (Builtin.«list.extend» ⟨[.ref l, .ref b], []⟩) (fun _ R s => s.heap.get? l = some { cls := .type "list", dict := none, data := .seq items n, slots := #[] } ∧ s.heap.get? b = some o ∧ R (.ok (.ret Value.none)) { s with heap := s.heap.update l (Obj.mapSeq fun x => x ++ items2), toks := s.toks }) :=
  .of_wp fun prog w A R s h => by
    obtain ⟨cls, dd, data, sl⟩ := o
    simp only at oc od
    subst oc od
    obtain ⟨hp, g, d, tk, os⟩ := s; obtain ⟨hl, hb, h⟩ := h; have f1 := idx_int; have f2 := sub_tuple_tuple; have f3 := sub_list_list; have f4 := sub_tuple_list; have f5 := sub_list_tuple
    have hz' : (items ++ items2).size ≤ sizeLine + 1 := by rw [Array.size_append]; exact hs2
    wp_walk using (wpAny_updateSeq hl rfl (hz := hs1) (_hz' := hz')), wpAny_loadPart' hl, wpAny_loadPart' hb; exact ⟨_, rfl, h⟩
end PySem
namespace PM
open PySem PySem.Spec L2
open PyProof.Rows hiding St
section
variable {X : Cx} {Wx : WX}
def rExtT (K : PySem.W.Frag) : V → List V → Hp → VK → Prop := fun x vs H Q => ∃ l b xs zs, x = .ref l ∧ vs = [.ref b] ∧ H l = some (.lst xs) ∧ SqT K H b zs ∧ xs.length + zs.length ≤ sizeLine ∧ Q .non (upd H l (.lst (xs ++ zs)))
theorem mt_extT : MtM X "list.extend" (rExtT X.K) := by
  intro pins s σ H x vs v us Q I rx rv h
  obtain ⟨l, b, xs, zs, rfl, rfl, hH, hB, hz, q⟩ := h
  cases rx
  obtain ⟨u, rfl, ru⟩ := rv.one
  cases ru
  obtain ⟨z, its, n, r, hl, e⟩ := I.lstM hH
  obtain ⟨its2, r2, ⟨o, eo, oc, n2, od⟩, z2⟩ := I.tuple hB
  have hl2 : zs.length = its2.length := r2.length
  have hsz : its.toArray.size + its2.toArray.size ≤ sizeLine := by rw [List.size_toArray, List.size_toArray]; omega
  have hlong : ¬ (!its.toArray.isEmpty && Builtin.List.listTooLong (its.toArray.size + its2.toArray.size)) = true := by
    rw [notLongL hsz, Bool.and_false]
    exact Bool.false_ne_true
  refine call_meets F.slot_list_extend ⟨_, e, rfl⟩ F.entry_list_extend (F.args_list_extend_2 _ _)
    (list_extend_tupleX l its.toArray n b its2.toArray n2 o oc od hlong (by rw [List.size_toArray]; omega) (by omega)) ⟨e, eo, ?_⟩
  refine ⟨.non, _, I.lset (its' := its ++ its2) hH e (by simp) (r.append r2) ?_, rfl, q⟩
  rw [List.length_append]
  omega
def bExtU (ws : List W) (h : MH) : R W := match ws with
  | [.ref i, .tup ys] => match mutAt h i with
    | some xs => if xs.length + ys.length ≤ sizeLine then .ok .non (h.set i (.lst (xs ++ ys))) else .stuck
    | none => .stuck
  | ws => bExt ws h
theorem cs_extU0 : CallS X Wx (.builtin "list.extend") (fun ws h => match ws with
  | [.ref i, .tup ys] => match mutAt h i with
    | some xs => if xs.length + ys.length ≤ sizeLine then .ok .non (h.set i (.lst (xs ++ ys))) else .stuck
    | none => .stuck
  | _ => .stuck) := .mt mt_extT fun σ b h ws vs Q S r q => by
  split at q
  · rename_i i y
    cases r with
    | cons r1 rr => cases rr with
      | cons r2 rr => cases rr; cases r1 with
        | ref _ hi =>
          split at q
          · rename_i xs e
            obtain ⟨us, h1, rx, _⟩ := S.mut e
            cases r2 with
            | tup a _ us' hs ry =>
              by_cases hz : xs.length + y.length ≤ sizeLine
              case neg => rw [if_neg hz] at q; exact q.elim
              rw [if_pos hz] at q
              obtain ⟨ex, S2⟩ := S.putL2 e (rx.append ry)
              exact ⟨_, _, rfl, _, _, us, us', rfl, rfl, h1, hs, by rw [← rx.length, ← ry.length]; exact hz, q _ _ ex S2 .non⟩
          · exact q.elim
  · exact q.elim
theorem cs_extU : CallS X Wx (.builtin "list.extend") bExtU := ⟨fun pins s σ b h ws vs us Q I S r rv q => by
  unfold bExtU at q
  split at q
  · exact cs_extU0.run pins s σ b h _ vs us Q I S r rv q
  · exact cs_extend.run pins s σ b h _ vs us Q I S r rv q⟩
end
end PM
/-! Sm76: str.replace of written texts, str.index; a token is out. -/
noncomputable section
namespace PySem
open Builtin Builtin.Str
/-- the first n cuts alone -/
def Txt.replaceN (x y z : Str) (n : Nat) : Str :=
  if ((occurrences x y 0 x.length n).isEmpty || (y.length == 0 && z.length == 0)) = true then x
  else glued z (partsBetween x (occurrences x y 0 x.length n) y.length)
theorem gives_str_replaceN (x y z : Str) (n : Nat) (t u v k : Tok) (hn : (n : Int) < 2 ^ 63)
    (hf : ((occurrences x y 0 x.length n).isEmpty || (y.length == 0 && z.length == 0)) = false →
      (u == 0 || v == 0) = false ∧ (u == v) = false ∧ (y == z) = false ∧ tooLong (x.length + (occurrences x y 0 x.length n).length * z.length) = false) :
    Gives («str.replace» ⟨[.str x t, .str y u, .str z v, .int n k], []⟩) (if ((occurrences x y 0 x.length n).isEmpty || (y.length == 0 && z.length == 0)) = true then .val (.str x t) else .str (glued z (partsBetween x (occurrences x y 0 x.length n) y.length))) := by
  have ha : asSsize "str.replace" (.int n k) = pure (n : Int) := asSsize_int _ _ _ (by simp; omega)
  have hc : countLimit "str.replace" (some (.int n k)) (x.length + 1) = pure n := by
    unfold countLimit
    show (asSsize "str.replace" (.int n k) >>= fun i => pure (if i < 0 then x.length + 1 else i.toNat)) = _
    rw [ha]
    show (pure (if (n : Int) < 0 then x.length + 1 else (n : Int).toNat) : Sem Nat) = _
    rw [if_neg (by omega), Int.toNat_natCast]
  show Gives (countLimit "str.replace" (some (.int n k)) (x.length + 1) >>= fun limit =>
       if ((occurrences x y 0 x.length limit).isEmpty || (y.length == 0 && z.length == 0)) = true then (do rule "str.replace.nothing"; ret (.str x t)) else
          (do let same ← isSame (.str y u) (.str z v)
              if same = true then (do rule "str.replace.old-is-new"; ret (.str x t)) else
              if tooLong (x.length + (occurrences x y 0 x.length limit).length * z.length) = true then unsupported "str.replace:memory" else
              retStr (glued z (partsBetween x (occurrences x y 0 x.length limit) y.length)))) _
  rw [hc]
  show Gives (if ((occurrences x y 0 x.length n).isEmpty || (y.length == 0 && z.length == 0)) = true then (do rule "str.replace.nothing"; ret (.str x t)) else
          (do let same ← isSame (.str y u) (.str z v)
              if same = true then (do rule "str.replace.old-is-new"; ret (.str x t)) else
              if tooLong (x.length + (occurrences x y 0 x.length n).length * z.length) = true then unsupported "str.replace:memory" else
              retStr (glued z (partsBetween x (occurrences x y 0 x.length n) y.length)))) _
  cases hc : ((occurrences x y 0 x.length n).isEmpty || (y.length == 0 && z.length == 0))
  · obtain ⟨h0, huv, hyz, hl⟩ := hf hc
    rw [isSame_str_other y z u v h0 huv hyz, hl]
    exact .of_eq rfl
  · exact .rule (.of_eq rfl)
section
variable {prog : Program} {w : World} {A : Around} {E : Value → Shared → Prop} {s : Shared} {x y z : Str} {t u v k : Tok} {Q : Value → Shared → Prop} {n : Nat}
theorem SC_replaceN (hu : u ≠ 0) (hv : v ≠ 0) (huv : u ≠ v) (hyz : (y == z) = false) (hn : (n : Int) < 2 ^ 63) (hb : x.length + n * z.length ≤ 16777216) (hr : (Txt.replaceN x y z n).length ≤ sizeLine)
    (hq : ∀ t' k, Q (.str (Txt.replaceN x y z n) t') { s with toks := k }) : wpAny (model prog w) A (call (.builtin "str.replace") [.str x t, .str y u, .str z v, .int n k]) Q E s := by
  have e : (2 : Nat) ^ 24 = 16777216 := by decide
  have hl : tooLong (x.length + (occurrences x y 0 x.length n).length * z.length) = false := by
    have h1 := StrLaws.occ_length_le x y 0 x.length n
    have h2 : (occurrences x y 0 x.length n).length * z.length ≤ n * z.length := Nat.mul_le_mul_right _ h1
    unfold tooLong sizeLine
    exact decide_eq_false (by omega)
  refine call_gives F.slot_str_replace (typeIs_str _ _ _) F.entry_str_replace (F.args_str_replace_4 _ _ _ _)
    (gives_str_replaceN x y z n t u v k hn fun _ => ⟨by simp [hu, hv], by simp [huv], hyz, hl⟩) ?_
  have hq' := hq
  unfold Txt.replaceN at hq' hr
  cases hc : ((occurrences x y 0 x.length n).isEmpty || (y.length == 0 && z.length == 0))
  · rw [hc] at hq' hr
    simp only [Bool.false_eq_true, if_false] at hq' hr ⊢
    exact ⟨hr, hq' _ _⟩
  · rw [hc] at hq'
    simp only [if_true] at hq' ⊢
    exact hq' t s.toks
end
end PySem
namespace PySem
section
variable {prog : Program} {w : World} {A : Around} {E : Value → Shared → Prop} {s : Shared} {env : Env}
theorem Call_method3 {o e₁ e₂ e₃ : Expr} {name : Str} {apos pos : Pos} {Q : Value → Shared → Prop}
    (hbase : attributeBase o name env (eval o env) = eval o env) (hs : starEach [e₁, e₂, e₃] env = [(false, eval e₁ env), (false, eval e₂ env), (false, eval e₃ env)]) (hline : (apos.endLine == pos.line) = true)
    (h : wpAny (model prog w) A (eval o env) (fun ov s₁ => MethodOnS prog w A E name ov pos [(false, eval e₁ env), (false, eval e₂ env), (false, eval e₃ env)] Q s₁) E s) :
    wpAny (model prog w) A (eval (.Call (.Attribute o name apos) [e₁, e₂, e₃] [] pos) env) Q E s := by
  refine wpAny_Call_method_lateS hbase (by rw [hs]; rfl) hline ?_
  rw [hs]; exact h
end
end PySem
namespace L2
open PySem PySem.Spec PyProof.Rows
section
variable {X : Cx} {o e c : Expr} {to te : TE} {x y z : Str} {j0 j1 j2 : Nat} {c0 c1 c2 apos pos : Pos} {n : Nat}
def tRepN (to : TE) (y z : Str) (n : Nat) : TE := fun σ H Q => to σ H fun v H1 => ∃ x, v = .str x ∧ (n : Int) < 2 ^ 63 ∧ x.length + n * z.length ≤ 16777216 ∧ (Txt.replaceN x y z n).length ≤ sizeLine ∧ Q (.str (Txt.replaceN x y z n)) H1
theorem pet_replN (ho : PE X o to) (hyz : (y == z) = false := by decide)
    (hst : starEach [.Constant (.str y) j0 c0, .Constant (.str z) j1 c1, .Constant (.int n) j2 c2] X.env = [(false, eval (.Constant (.str y) j0 c0) X.env), (false, eval (.Constant (.str z) j1 c1) X.env), (false, eval (.Constant (.int n) j2 c2) X.env)] := by rfl)
    (hbase : attributeBase o "replace" X.env (eval o X.env) = eval o X.env := by rfl) (hline : (apos.endLine == pos.line) = true := by rfl) :
    PET X (.Call (.Attribute o "replace" apos) [.Constant (.str y) j0 c0, .Constant (.str z) j1 c1, .Constant (.int n) j2 c2] [] pos) (tRepN to y z n) := by
  intro pins s σ H Q h0 I h
  refine PySem.Call_method3 hbase hst hline ?_
  refine wpAny_mono (PySem.wpAny_toks (ho.run pins s σ H _ I h)) (fun v s1 q => ?_) fun _ _ z => z.2
  obtain ⟨hk, v', H1, I1, r1, x, e1, hn, hb, hr, q⟩ := q
  subst e1
  obtain ⟨tx, e2⟩ := r1
  subst e2
  refine ⟨"str", _, PySem.F.plainAttrs_str, PySem.F.slot_str_replace, PySem.F.type_str_replace, typeIs_str _ _ _, (fun _ e => nomatch e), Calls.callWith_builtin rfl (Calls.evalArgs_plain (Calls.spliced_cons ?_))⟩
  refine Calls.Constant_str (Calls.spliced_cons (Calls.Constant_str (Calls.spliced_cons (PySem.wpAny_Constant_int (Calls.spliced_nil ?_)))))
  exact PySem.SC_replaceN (by show s1.toks ≠ 0; omega) (by show s1.toks + 1 ≠ 0; omega) (by show s1.toks ≠ s1.toks + 1; omega) hyz hn hb hr fun t' k => ⟨.str (Txt.replaceN x y z n), H1, I1.tok k, ⟨t', rfl⟩, q⟩
/-- 'sep'.join(e).replace('y', 'z'): the separator is a token -/
def tJoinR (te : TE) (a y z : Str) : TE := fun σ H Q => te σ H fun v H1 => ∃ p, ∃ ys : List Str, v = .ref p ∧ (SqL X.K H1 p (ys.map V.str) ∨ SqT X.K H1 p (ys.map V.str)) ∧
  (ys.map (·.length)).sum + ys.length * a.length ≤ 16777216 ∧ (Txt.join a ys).length + ((Txt.join a ys).length + 1) * z.length ≤ 16777216 ∧ Q (.str (Txt.replace (Txt.join a ys) y z)) H1
theorem pe_joinR {a : Str} {ja : Nat} {ca ap jp : Pos} (he : PE X e te) (hyz : (y == z) = false := by decide)
    (hs : starEach [e] X.env = [(false, eval e X.env)] := by rfl) (hb1 : attributeBase (.Constant (.str a) ja ca) "join" X.env (eval (.Constant (.str a) ja ca) X.env) = eval (.Constant (.str a) ja ca) X.env := by rfl) (hl1 : (ap.endLine == jp.line) = true := by rfl)
    (hst : starEach [.Constant (.str y) j0 c0, .Constant (.str z) j1 c1] X.env = [(false, eval (.Constant (.str y) j0 c0) X.env), (false, eval (.Constant (.str z) j1 c1) X.env)] := by rfl)
    (hbase : attributeBase (.Call (.Attribute (.Constant (.str a) ja ca) "join" ap) [e] [] jp) "replace" X.env (eval (.Call (.Attribute (.Constant (.str a) ja ca) "join" ap) [e] [] jp) X.env) = eval (.Call (.Attribute (.Constant (.str a) ja ca) "join" ap) [e] [] jp) X.env := by rfl) (hline : (apos.endLine == pos.line) = true := by rfl) :
    PE X (.Call (.Attribute (.Call (.Attribute (.Constant (.str a) ja ca) "join" ap) [e] [] jp) "replace" apos) [.Constant (.str y) j0 c0, .Constant (.str z) j1 c1] [] pos) (tJoinR (X := X) te a y z) := by
  refine ⟨fun pins s σ H Q I h => ?_⟩
  refine PySem.Call_method2 hbase hst hline ?_
  refine PySem.Call_method1 hb1 hs hl1 (Calls.Constant_str ?_)
  refine ⟨"str", _, F.plainAttrs_str, F.slot_str_join, F.type_str_join, typeIs_str _ _ _, (fun _ e => nomatch e), Calls.callWith_builtin rfl (Calls.evalArgs_plain (Calls.spliced_cons ?_))⟩
  refine wpAny_mono (PySem.wpAny_toks (he.run pins _ σ H _ (I.tok (s.toks + 1)) h)) (fun u s2 q => ?_) fun _ _ z => z.2
  obtain ⟨hk, v', H2, I2, r2, p, ys, e1, hp, hz, hzz, q⟩ := q
  subst e1
  have hk : s.toks + 1 ≤ s2.toks := hk
  refine Calls.spliced_nil (wpAny_mono (PySem.wpAny_toks (mt_join pins s2 σ H2 (.str a) [.ref p] (.str a s.toks) [u] (fun v H3 => v = .str (Txt.join a ys) ∧ H3 = H2) I2 ⟨_, rfl⟩ (.cons r2 .nil) ⟨a, p, ys, rfl, rfl, hp, hz, rfl, rfl⟩)) (fun v s3 q3 => ?_) fun _ _ z => z.2)
  obtain ⟨hk3, v3, H3, I3, r3, e3, e4⟩ := q3
  subst e3
  subst e4
  obtain ⟨tx, e2⟩ := r3
  subst e2
  refine ⟨"str", _, PySem.F.plainAttrs_str, PySem.F.slot_str_replace, PySem.F.type_str_replace, typeIs_str _ _ _, (fun _ e => nomatch e), Calls.callWith_builtin rfl (Calls.evalArgs_plain (Calls.spliced_cons ?_))⟩
  refine Calls.Constant_str (Calls.spliced_cons (Calls.Constant_str (Calls.spliced_nil ?_)))
  exact PySem.SC.replace (by show s3.toks ≠ 0; omega) (by show s3.toks + 1 ≠ 0; omega) (by show s3.toks ≠ s3.toks + 1; omega) hyz hzz fun t' k => ⟨.str (Txt.replace (Txt.join a ys) y z), _, I3.tok k, ⟨t', rfl⟩, q⟩
/-! ### one token out: two names at once -/
theorem pst_par {i j : Nat} {x y : Str} {a b : Expr} {ta : TA} {px py pt : Pos} {kt k2 pt2} (hc : X.calm = true) (hN : X.N.Nodup) (hi : X.N[i]? = some x) (hj : X.N[j]? = some y) (hij : i ≠ j)
    (hx : X.env.scope.names.lookup x = some .local) (hy : X.env.scope.names.lookup y = some .local) (ha : PAT X [a, b] ta)
    (hw : swappedStores [.Tuple [.Name x px, .Name y py] kt pt] (.Tuple [a, b] k2 pt2) X.env = pure (some [x, y]))
    (hs : swapsWithSole [.Tuple [.Name x px, .Name y py] kt pt] (.Tuple [a, b] k2 pt2) pos.line X.env = pure false := by rfl) :
    PST X (.Assign [.Tuple [.Name x px, .Name y py] kt pt] (.Tuple [a, b] k2 pt2) pos) (tPar i j ta) := by
  intro pins s σ H D h0 I h
  rw [exec_Assign_arm]
  refine wpAny_bind (wpAny_standAt ?_)
  rw [hs]
  refine wpAny_bind (wpAny_pure ?_)
  rw [if_neg (by decide)]
  refine wpAny_bind (Tuple_ (thn (ha _ pins s σ H _ h0 I h) fun us s1 ⟨vs, H1, I1, r1, q1⟩ => ?_))
  obtain ⟨v, w, e1, q1⟩ := q1
  subst e1
  obtain ⟨u1, u2, rfl, rv, rw'⟩ : ∃ u1 u2, us = [u1, u2] ∧ RelV v u1 ∧ RelV w u2 := by
    cases r1 with
    | cons p q =>
      cases q with
      | cons p' q' =>
        cases q'
        exact ⟨_, _, rfl, p, p'⟩
  refine wpAny_newObj_type ?_ (by show 2 ≤ sizeLine; decide)
  have I2 : Inv X pins σ H1 { s1 with heap := s1.heap.push { cls := .type "tuple", data := .seq [u1, u2].toArray } } := I1.kept (t' := s1.toks) fun b o e => Heap.get?_push_of_some _ e
  rw [hw]
  refine wpAny_bind (wpAny_pure ?_)
  show wpAny (model X.prog X.w) X.A (do rule "assign.swapped-stores"; let items ← unpackItems (.ref s1.heap.objs.size) 2 none; assignInOrder [fun v => bindName X.env y v, fun v => bindName X.env x v] items.reverse; pure Flow.next) _ _ _
  refine wpAny_bind (wpAny_rule (wpAny_bind (unpackItems_tuple (items := #[u1, u2]) (I.ok.hd hc) (IsTup.new s1.heap _) fun h' hx' => ?_)))
  have I3 := I2.kept (h' := h') (t' := s1.toks) fun b o e => hx' b o (Nat.ne_of_lt (Heap.lt_size e)) e
  show wpAny _ _ (assignInOrder [fun v => bindName X.env y v, fun v => bindName X.env x v] [u2, u1] >>= fun _ => pure Flow.next) _ _ _
  refine wpAny_bind (assignInOrder_cons (wpAny_bindName (store_ok I3 hN hj (.inl hy) rw' (fun s2 I4 => ?_) (.inr hy))))
  refine assignInOrder_cons (wpAny_bindName (store_ok I4 hN hi (.inl hx) rv (fun s3 I5 => assignInOrder_nil (wpAny_pure ?_)) (.inr hx)))
  rw [List.set_comm _ _ (Ne.symm hij)] at I5
  exact ⟨_, H1, I5, q1⟩
end
end L2
/-! Sm77: str.replace of written texts, str.index, in the mirror; bodies that begin with a token out. -/
noncomputable section
namespace PM
open PySem PySem.Spec L2
open PyProof.Rows hiding St
section
variable {X : Cx} {Wx : WX} {o e c a : Expr} {mo me mc : EM} {n : AM} {y z : Str} {j0 j1 j2 : Nat} {c0 c1 c2 apos pos : Pos} {st : Stmt} {rest : List Stmt} {m m1 m2 : SM}
/-! ### 'a'.join(e).replace('y', 'z') -/
def eJoinR (a y z : Str) (me : EM) : EM := fun σ h => (me σ h).bind fun x g => match (seqAt x g).bind strsOf with
  | some ys => @ite _ ((ys.map (·.length)).sum + ys.length * a.length ≤ 16777216 ∧ (Txt.join a ys).length + ((Txt.join a ys).length + 1) * z.length ≤ 16777216) (Classical.propDecidable _) (.ok (.str (Txt.replace (Txt.join a ys) y z)) g) .stuck
  | none => .stuck
theorem se_joinR {a : Str} {ja : Nat} {ca ap jp : Pos} (he : SE X Wx e me) (hyz : (y == z) = false := by decide)
    (hs : starEach [e] X.env = [(false, eval e X.env)] := by rfl) (hb1 : attributeBase (.Constant (.str a) ja ca) "join" X.env (eval (.Constant (.str a) ja ca) X.env) = eval (.Constant (.str a) ja ca) X.env := by rfl) (hl1 : (ap.endLine == jp.line) = true := by rfl)
    (hst : starEach [.Constant (.str y) j0 c0, .Constant (.str z) j1 c1] X.env = [(false, eval (.Constant (.str y) j0 c0) X.env), (false, eval (.Constant (.str z) j1 c1) X.env)] := by rfl)
    (hbase : attributeBase (.Call (.Attribute (.Constant (.str a) ja ca) "join" ap) [e] [] jp) "replace" X.env (eval (.Call (.Attribute (.Constant (.str a) ja ca) "join" ap) [e] [] jp) X.env) = eval (.Call (.Attribute (.Constant (.str a) ja ca) "join" ap) [e] [] jp) X.env := by rfl) (hline : (apos.endLine == pos.line) = true := by rfl) :
    SE X Wx (.Call (.Attribute (.Call (.Attribute (.Constant (.str a) ja ca) "join" ap) [e] [] jp) "replace" apos) [.Constant (.str y) j0 c0, .Constant (.str z) j1 c1] [] pos) (eJoinR a y z me) := by
  refine ⟨pe_imp (pe_joinR he.pe hyz hs hb1 hl1 hst hbase hline) fun σ H Q ⟨b, h, σm, eH, S, l, q⟩ => ?_⟩
  refine ⟨b, h, σm, eH, S, l, (Post.bind (rel := Rl X.K) q).mono fun y' H2 ⟨c2, y, h2, eH, E2, S2, r2, q2⟩ => ?_⟩
  subst eH
  split at q2
  · rename_i ys e2
    obtain ⟨xs, h3, h4⟩ := Option.bind_eq_some_iff.mp e2
    obtain ⟨p, us, rfl, hs, rr⟩ := S2.seq r2 h3
    rw [strsOf_ok rr h4] at hs
    split at q2
    · rename_i hz; exact ⟨p, ys, rfl, hs, hz.1, hz.2, q2.here S2 (.str _)⟩
    · exact q2.elim
  · exact q2.elim
/-! ### text.index(sign) -/
def bSIdx (ws : List W) (h : MH) : R W := match ws with
  | [.str a, .str c] => match Builtin.Str.occurrences a c 0 a.length 1 with
    | i :: _ => .ok (.int (i : Nat)) h
    | [] => .stuck
  | _ => .stuck
/-! ### o.replace('y', 'z', n) -/
def eRepN (mo : EM) (y z : Str) (n : Nat) : EM := fun σ h => (mo σ h).bind fun x g => match x with
  | .str a => @ite _ ((n : Int) < 2 ^ 63 ∧ a.length + n * z.length ≤ 16777216 ∧ (Txt.replaceN a y z n).length ≤ sizeLine) (Classical.propDecidable _) (.ok (.str (Txt.replaceN a y z n)) g) .stuck
  | _ => .stuck
structure SET (X : Cx) (Wx : WX) (e : Expr) (m : EM) : Prop where
  pe : PET X e (tSim X.K Wx m)
structure SAT (X : Cx) (Wx : WX) (es : List Expr) (m : AM) : Prop where
  pa : PAT X es (tSimA X.K Wx m)
structure SST (X : Cx) (Wx : WX) (st : Stmt) (m : SM) : Prop where
  ps : PST X st (tSimS X.K Wx m)
structure SSsT (X : Cx) (Wx : WX) (st : List Stmt) (m : SM) : Prop where
  ps : PSsT X st (tSimS X.K Wx m)
theorem pet_imp {t u : TE} (h : PET X e t) (m : ∀ σ H Q, u σ H Q → t σ H Q) : PET X e u := fun pins s σ H Q h0 I q => h pins s σ H Q h0 I (m _ _ _ q)
theorem pat_imp {es : List Expr} {t u : TA} (h : PAT X es t) (m : ∀ σ H Q, u σ H Q → t σ H Q) : PAT X es u := fun ps pins s σ H Q h0 I q => h ps pins s σ H Q h0 I (m _ _ _ q)
theorem pst_imp {t u : TS} (h : PST X st t) (m : ∀ D σ H, u D σ H → t D σ H) : PST X st u := fun pins s σ H D h0 I q => h pins s σ H D h0 I (m _ _ _ q)
theorem psst_imp {t u : TS} (h : PSsT X rest t) (m : ∀ D σ H, u D σ H → t D σ H) : PSsT X rest u := fun pins s σ H D h0 I q => h pins s σ H D h0 I (m _ _ _ q)
theorem SE.t (h : SE X Wx e me) : SET X Wx e me := ⟨fun pins s σ H Q _ I q => h.pe.run pins s σ H Q I q⟩
theorem SS.t (h : SS X Wx st m) : SST X Wx st m := ⟨PST.of h.ps⟩
theorem SSs.t (h : SSs X Wx rest m) : SSsT X Wx rest m := ⟨PSsT.of h.ps⟩
theorem set_repN {n : Nat} (ho : SE X Wx o mo) (hyz : (y == z) = false := by decide)
    (hst : starEach [.Constant (.str y) j0 c0, .Constant (.str z) j1 c1, .Constant (.int n) j2 c2] X.env = [(false, eval (.Constant (.str y) j0 c0) X.env), (false, eval (.Constant (.str z) j1 c1) X.env), (false, eval (.Constant (.int n) j2 c2) X.env)] := by rfl)
    (hbase : attributeBase o "replace" X.env (eval o X.env) = eval o X.env := by rfl) (hline : (apos.endLine == pos.line) = true := by rfl) :
    SET X Wx (.Call (.Attribute o "replace" apos) [.Constant (.str y) j0 c0, .Constant (.str z) j1 c1, .Constant (.int n) j2 c2] [] pos) (eRepN mo y z n) := by
  refine ⟨pet_imp (pet_replN ho.pe hyz hst hbase hline) fun σ H Q ⟨b, h, σm, eH, S, l, q⟩ => ?_⟩
  refine ⟨b, h, σm, eH, S, l, (Post.bind (rel := Rl X.K) q).mono fun y' H2 ⟨c2, y, h2, eH, E2, S2, r2, q2⟩ => ?_⟩
  subst eH
  cases r2 with
  | str a =>
    dsimp only at q2
    split at q2
    · rename_i hz; exact ⟨a, rfl, hz.1, hz.2.1, hz.2.2, q2.here S2 (.str _)⟩
    · exact q2.elim
  | _ => exact q2.elim
theorem sat_nil : SAT X Wx [] aNil := ⟨fun ps pins s σ H Q _ I q => sa_nil.pa.run ps pins s σ H Q I q⟩
theorem sat_cons {es : List Expr} (ha : SET X Wx e me) (hr : SAT X Wx es n) (hs : starEach (e :: es) X.env = (false, eval e X.env) :: starEach es X.env := by rfl) : SAT X Wx (e :: es) (aCons me n) := by
  refine ⟨pat_imp (pat_cons ha.pe hr.pa hs) fun σ H Q ⟨b, h, σm, e, S, l, q⟩ => ?_⟩
  refine ⟨b, h, σm, e, S, l, (Post.bind q).mono fun v H1 ⟨c, w, g, e, x, s, r, p⟩ => ?_⟩
  refine ⟨c, g, σm, e, s, l.ext x, (Post.bind p).mono fun vs H2 ⟨c2, ws, g2, e2, x2, s2, r2, p2⟩ => ?_⟩
  subst e2
  exact p2.here s2 (.cons (r.ext x2) r2)
theorem sst_par {i j : Nat} {x y : Str} {px py pt : Pos} {kt k2 pt2} (hc : X.calm = true) (hN : X.N.Nodup) (hi : X.N[i]? = some x) (hj : X.N[j]? = some y) (hij : i ≠ j)
    (hx : X.env.scope.names.lookup x = some .local) (hy : X.env.scope.names.lookup y = some .local) (ha : SAT X Wx [a, c] n)
    (hw : swappedStores [.Tuple [.Name x px, .Name y py] kt pt] (.Tuple [a, c] k2 pt2) X.env = pure (some [x, y]))
    (hs : swapsWithSole [.Tuple [.Name x px, .Name y py] kt pt] (.Tuple [a, c] k2 pt2) pos.line X.env = pure false := by rfl) :
    SST X Wx (.Assign [.Tuple [.Name x px, .Name y py] kt pt] (.Tuple [a, c] k2 pt2) pos) (sPar i j n) := by
  refine ⟨pst_imp (pst_par hc hN hi hj hij hx hy ha.pa hw hs) fun D σ H ⟨b, h, σm, e, S, l, q⟩ => ?_⟩
  refine ⟨b, h, σm, e, S, l, (PostS.st (rel := Rls X.K) l q).mono fun vs H1 ⟨c1, ws, g, e, x, s, r, p⟩ => ?_⟩
  subst e
  split at p
  · obtain ⟨v, w, rfl, r1, r2⟩ := rls2 r
    exact ⟨v, w, rfl, p c1 _ .refl s (((l.ext x).set i r1).set j r2)⟩
  · exact p.elim
theorem sst_nil : SSsT X Wx [] sNext := ss_nil.t
theorem sst_cons (h1 : SST X Wx st m1) (h2 : SSsT X Wx rest m2) : SSsT X Wx (st :: rest) (sSeq m1 m2) := by
  refine ⟨psst_imp (psst_cons h1.ps h2.ps) fun D σ H ⟨b, h, σm, e, S, l, q⟩ => ?_⟩
  refine ⟨b, h, σm, e, S, l, (PostS.seq q).mono (fun σ' H' ⟨c, g, σm', e', x, s, l', p⟩ => ⟨c, g, σm', e', s, l', p⟩) (fun _ _ z => z) (fun _ _ z => z) (fun _ _ z => z)⟩
theorem sst_one (h1 : SST X Wx st m) : SSsT X Wx [st] m := ⟨psst_imp (CwR.psst_one h1.ps) fun D σ H q => q⟩
theorem sst_if {t : TM} {p q : List Stmt} (hc : STt X Wx c t) (ha : SSsT X Wx p m1) (hb : SSsT X Wx q m2) : SST X Wx (.If c p q pos) (sIf t m1 m2) := by
  refine ⟨pst_imp (CwR.pst_if hc.pt ha.ps hb.ps) fun D σ H ⟨b, h, σm, e, S, l, q⟩ => ?_⟩
  refine ⟨b, h, σm, e, S, l, (PostS.st (rel := rEqB) l q).mono fun v H1 ⟨c, w, g, e, x, s, r, p⟩ => ?_⟩
  subst e; subst r
  cases w with
  | true => rw [if_pos rfl] at p ⊢; exact ⟨c, g, σm, rfl, s, l.ext x, p⟩
  | false => rw [if_neg Bool.false_ne_true] at p ⊢; exact ⟨c, g, σm, rfl, s, l.ext x, p⟩
end
section
variable {X : Cx} {Wx : WX}
theorem cs_sindex : CallS X Wx (.builtin "str.index") bSIdx := .mt mt_sindex fun σ b h ws vs Q S r q => by
  unfold bSIdx at q
  split at q
  · rename_i x y
    cases r with
    | cons r1 rr => cases rr with
      | cons r2 rr =>
        cases rr; cases r1; cases r2
        split at q
        · rename_i i l e
          exact ⟨_, _, rfl, _, _, i, l, rfl, rfl, e, q.here S (.int _)⟩
        · exact q.elim
  · exact q.elim
end
section
variable {P : Program} {w : World} {K : PySem.W.Frag} {mg : Str → Option Value} {base : Heap}
/-- a def by its body, a token out -/
theorem fnG_ofT {k : Nat} {f : Addr} {name qual : Str} {params : Arguments} {body : List Stmt} {scope : Scope} {dvs : List V} {kws : List (Str × V)} {fd : FuncData} {N ps : List Str} {m : SM} (F : FunD K name qual params body scope dvs kws f fd) (S : FnScope N ps scope)
    (hnc : ∀ y ∈ scope.names, y.2 ≠ .cell) (hps : 1 ≤ ps.length)
    (hbody : ∀ (cdv : Value) (A : Around) (outer : List Env) (s : Shared) (H : Hp) (E : XK), Room k (A.deeper (envOfC qual scope s.heap.objs.size f cdv)) → (A.deeper (envOfC qual scope s.heap.objs.size f cdv)).guards = some [] →
      SSsT (cxOf (L2.CX P w) P w K mg base N qual scope f cdv A outer s H E) (WxOf E) body m) : FnG P w K mg base (k + 1) f fd ps (mkF ps.length N.length m) := by
  obtain ⟨oc, od, dV, kV, doc, pm, an, cdv, ct, osl, rfl, lk, hcd, _, _⟩ := F.ex
  refine ⟨fun ws h e => if_neg e, fun A outer s b h args us vs ws Q E hr hg e0 hb rv sim rw q => ?_⟩
  unfold mkF at q
  by_cases hl : ws.length = ps.length
  case neg => rw [if_neg hl] at q; exact q.elim
  rw [if_pos hl] at q
  have hlv : vs.length = ps.length := by rw [← rw.length]; exact hl
  have hul : us.length = ps.length := by rw [← rv.length, hlv]
  have kin : K.In s.heap := e0.mod.kin.keeps fun b o e => (e0.bs b o e).1
  have lim : s.heap.NoLimit := e0.mod.nolimit.keeps fun b o e => (e0.bs b o e).1
  have hloc : ∀ y ∈ ps.zip us, scope.names.lookup y.1 = some .local := fun ⟨n, v⟩ hy => by
    rcases S.par n (List.of_mem_zip hy).1 with q | q
    · exact q
    · exact absurd rfl (hnc _ (PySem.mem_of_lookup q))
  refine codeAny_call_function hr.depth (kin _ _ lk) rfl S.co S.gen rfl (PySem.W.codeRec_of kin hcd) (hb _ _ _ _ ?_)
  refine wpAny_newFunctionEnv hnc hloc (fun h1 hns hsb => ?_) S.kind
  have hz : (ps.zip us).length = ps.length := by rw [List.length_zip, hul, Nat.min_self]
  have keep : ∀ b o, s.heap.get? b = some o → h1.get? b = some o := fun b o e => hsb.extBut b o (Nat.ne_of_lt (Heap.lt_size e)) (Heap.get?_push_of_some _ e)
  have hcl : cellsFrom (s.heap.objs.size + 1) scope.names [] = [] := cells_none _ _ _ hnc
  have hkl : ∀ y ∈ ps.zip us, (envOfC qual scope s.heap.objs.size f cdv).kindOf y.1 = some .local := fun y hy => by
    first
    | exact hloc y hy
    | (simp only [Env.kindOf]; exact hloc y hy)
    | (unfold Env.kindOf; rw [if_pos S.kind]; exact hloc y hy)
    | simpa [Env.kindOf, envOfC, newEnv, S.kind] using hloc y hy
  have hm : (bindL (envOfC qual scope s.heap.objs.size f cdv).kindOf (ps.zip us) fun _ => none) = fun x => (ps.zip us).reverse.lookup x := by
    funext y
    rw [bindL_loc _ _ hkl y]
    cases (ps.zip us).reverse.lookup y <;> rfl
  have x : InCallC s s.heap.objs.size (bindL (envOfC qual scope s.heap.objs.size f cdv).kindOf (ps.zip us) fun _ => none) (cellsFrom (s.heap.objs.size + 1) scope.names [])
      (bindC (envOfC qual scope s.heap.objs.size f cdv).kindOf (ps.zip us) fun _ => none) ({ s with heap := h1, toks := s.toks + (ps.zip us).length } : Shared) := by
    rw [hm, hcl]
    exact ⟨⟨⟨_, _, rfl⟩, hns, keep, Nat.le_refl _⟩, fun n c hc => absurd hc (by simp), .nil, fun n c hc => absurd hc (by simp)⟩
  have henv : newEnv scope s.heap.objs.size mainGlobals [] (qual ++ ".<locals>.") (some f) cdv none builtinsNs = envOfC qual scope s.heap.objs.size f cdv := by
    unfold envOfC
    rw [hcl] <;> rfl
  have hto : 1 ≤ ({ s with heap := h1, toks := s.toks + (ps.zip us).length } : Shared).toks := by
    show 1 ≤ s.toks + (ps.zip us).length
    omega
  show ({ s with heap := h1, toks := s.toks + (ps.zip us).length } : Shared).heap.NoLimit ∧ codeAny (model P w) A (.func body (newEnv scope s.heap.objs.size mainGlobals [] (qual ++ ".<locals>.") (some f) cdv none builtinsNs)) _ ({ s with heap := h1, toks := s.toks + (ps.zip us).length } : Shared)
  rw [henv]
  generalize ({ s with heap := h1, toks := s.toks + (ps.zip us).length } : Shared) = s1 at x hto ⊢
  refine ⟨lim.keeps x.toInCall.keep, codeAny_func ?_⟩
  have B := hbody cdv A outer s b.H E (hr.deeper _) hg
  have I : Inv (cxOf (L2.CX P w) P w K mg base N qual scope f cdv A outer s b.H E) [] (start N vs) b.H s1 := inv_start S hr.hd e0 hlv rv x
  have run := B.ps [] s1 (start N vs) b.H { nx := fun _ H' => Q .non H', rt := Q } hto I ⟨b, h, _, rfl, sim, slots_start rw, (by
    rw [hl]
    cases eb : m (ws.map some ++ List.replicate (N.length - ps.length) none) h with
    | nx σm g => rw [eb] at q; exact fun c σ x s _ => q c .non x s .non
    | rt w g => rw [eb] at q; exact q
    | bk _ _ => rw [eb] at q; exact q.elim
    | ct _ _ => rw [eb] at q; exact q.elim
    | exc x σm g => rw [eb] at q; exact fun c σ d x s _ y => q c d x s y
    | stuck => rw [eb] at q; exact q)⟩
  refine wpAny_mono run (fun fl s' hs => ?_) fun e s' hs => hs
  have fin : ∀ {σ' : L2.St} {H' : Hp} {v : V} {u : Value}, Inv (cxOf (L2.CX P w) P w K mg base N qual scope f cdv A outer s b.H E) [] σ' H' s' → RelV v u → Q v H' → CE outer P w b.H s Q u s' :=
    fun {σ' H' v u} J rv q => ⟨v, H', J.os, J.bare, J.base, J.hok, rv, q⟩
  cases fl with
  | next => obtain ⟨σ', H', J, q⟩ := hs; exact fin (v := V.non) (u := Value.none) J rfl q
  | ret u => obtain ⟨v, σ', H', J, rv, q⟩ := hs; exact fin J rv q
  | brk => obtain ⟨_, _, _, q⟩ := hs; exact False.elim q
  | cont => obtain ⟨_, _, _, q⟩ := hs; exact False.elim q
end
/-! ### a test that gives a token out -/
theorem const_toks {M : Model} {A : Around} {E : Value → Shared → Prop} {s : Shared} {env : Env} {i : Int} {k : Nat} {pos : Pos} {Q : Value → Shared → Prop} (h : wpAny M A (eval (.Constant (.int i) k pos) env) Q E s) :
    wpAny M A (eval (.Constant (.int i) k pos) env) (fun v s' => 1 ≤ s'.toks ∧ Q v s') E s := fun Γ p hΓ => ⟨by show 1 ≤ s.toks + 1; omega, h Γ p hΓ⟩
def PTk (X : Cx) (c : Expr) (t : TT) : Prop :=
  ∀ (pins : List (Addr × Obj)) (s : Shared) (σ : L2.St) (H : Hp) (Q : Bool → Hp → Prop), Inv X pins σ H s → t σ H Q → wpAny (model X.prog X.w) X.A (isTrue c X.env (eval c X.env)) (fun d s' => 1 ≤ s'.toks ∧ TP X pins σ Q d s') X.xe s
section
variable {X : Cx} {Wx : WX} {a c : Expr} {ma : EM} {j : Nat} {c1 pos : Pos} {i : Int} {p q : List Stmt} {m1 m2 : SM} {tc : TT} {t u : TS}
structure STk (X : Cx) (Wx : WX) (e : Expr) (m : TM) : Prop where
  pt : PTk X e (tSimT X.K Wx m)
theorem stK_cmp {op : CmpOp} {m : W → W → MH → R W} (ho : OpS X Wx (compareOp op) m) (ha : SE X Wx a ma) (hm : behindInMarks op (.Constant (.int i) j c1) = false) : STk X Wx (.Compare a [op] [.Constant (.int i) j c1] pos) (tTru (e2 m ma (eC (.int i)))) := by
  refine ⟨fun pins s σ H Q I q => ?_⟩
  obtain ⟨b, h, σm, rfl, S, l, q⟩ := q
  refine wpAny_isTrue_Compare1 (thn (e2_run ho ha se_int I ⟨b, h, σm, rfl, S, l, Post.bind (rel := Rl X.K) q⟩) fun v s1 q1 => thn (const_toks q1) fun u s2 q2 => ?_) hm
  refine wpAny_with_toks q2.1 (wpAny_mono q2.2 (fun z s3 q3 t3 => ?_) fun _ _ z _ => z)
  obtain ⟨x, H1, I1, r1, c1, w, h1, e1, E1, S1, l1, q1⟩ := q3
  subst e1
  exact wpAny_mono (wpAny_toks_of t3 (tru_run I1 S1 l1 r1 q1)) (fun _ _ z => z) fun _ _ z => z.2
theorem ps_ifK (hc : PTk X c tc) (ha : PSsT X p t) (hb : PSsT X q u) : PS X (.If c p q pos) (tIfS tc t u) := by
  refine ⟨fun pins s σ H D I h => ?_⟩
  refine wpAny_If (wpAny_mono (hc pins s σ H _ I h) (fun d s1 q => ?_) fun _ _ z => z)
  obtain ⟨hk, H1, I1, q1⟩ := q
  cases d with
  | true => exact ha pins s1 σ H1 D hk I1 q1
  | false => exact hb pins s1 σ H1 D hk I1 q1
theorem ss_ifK {t : TM} (hc : STk X Wx c t) (ha : SSsT X Wx p m1) (hb : SSsT X Wx q m2) : SS X Wx (.If c p q pos) (sIf t m1 m2) := by
  refine ⟨ps_imp (ps_ifK hc.pt ha.ps hb.ps) fun D σ H ⟨b, h, σm, e, S, l, q⟩ => ?_⟩
  refine ⟨b, h, σm, e, S, l, (PostS.st (rel := rEqB) l q).mono fun v H1 ⟨c, w, g, e, x, s, r, p⟩ => ?_⟩
  subst e; subst r
  cases w with
  | true => rw [if_pos rfl] at p ⊢; exact ⟨c, g, σm, rfl, s, l.ext x, p⟩
  | false => rw [if_neg Bool.false_ne_true] at p ⊢; exact ⟨c, g, σm, rfl, s, l.ext x, p⟩
end
end PM

namespace K03
open PySem L2 PM
noncomputable abbrev m__law_box : FM := Bag.bagG
noncomputable abbrev m__law_cell : FM := Bag.cellG 15487289 191
noncomputable abbrev m__law_take : FM := Bag.takeG 15487289 191 104723
noncomputable def m__law_figures : FM := mkF 1 7
    (sSeq (sSet 1 (e2 bAdd (eC (.int 1)) (eCall (fz m__law_take) (aCons (eVar 0) (aCons (e2 bIxX (eFz (eLst (aCons (eC (.int 3)) (aCons (eC (.int 7)) (aCons (eC (.int 34)) aNil))))) (eCall (fz m__law_take) (aCons (eVar 0) (aCons (eC (.int 3)) aNil)))) aNil)))))
    (sSeq (sSet 2 (eJoin (eC (.str "")) (eFz (eLc (iRange rng1 (aCons (eVar 1) aNil)) [3] (gN 3) tYesM (e2 bIxX (eC (.str "0123456789")) (eCall (fz m__law_take) (aCons (eVar 0) (aCons (eC (.int 10)) aNil))))))))
    (sSeq (sPar 4 5 (aCons (eCall (fz m__law_take) (aCons (eVar 0) (aCons (eCall bLen (aCons (eVar 2) aNil)) aNil))) (aCons (eCall (fz m__law_take) (aCons (eVar 0) (aCons (eC (.int 6)) aNil))) aNil)))
    (sSeq (sIf (tTru (e2 bEq (eVar 5) (eC (.int 0)))) (sRet (eFz (e2 bAdd (eFz (e2 bAdd (eFz (eSl (eVar 2) oNo (oSome (eVar 4)))) (e2 bIxX (e2 bAdd (eC (.str "+- a._~/:")) (eC (.str "\n"))) (eCall (fz m__law_take) (aCons (eVar 0) (aCons (eC (.int 10)) aNil)))))) (eFz (eSl (eVar 2) (oSome (e2 bAdd (eVar 4) (eC (.int 1)))) oNo))))) sNext)
    (sSeq (sIf (tTru (e2 bEq (eVar 5) (eC (.int 1)))) (sSeq (sSet 6 (eFz (eLst (aCons (eC (.str "")) (aCons (eC (.str "0")) (aCons (eC (.str "00")) (aCons (e2 bAdd (eC (.str "0")) (eVar 2)) (aCons (e2 bAdd (eVar 2) (eC (.str " "))) (aCons (e2 bAdd (eC (.str " ")) (eVar 2)) (aCons (e2 bAdd (eC (.str "-")) (eVar 2)) (aCons (e2 bAdd (eVar 2) (eC (.str "\n"))) (aCons (e2 bAdd (eC (.str "\n")) (eVar 2)) aNil))))))))))))
    (sRet (e2 bIxX (eVar 6) (eCall (fz m__law_take) (aCons (eVar 0) (aCons (eC (.int 9)) aNil)))))) sNext)
    (sRet (eVar 2)))))))
noncomputable def m__law_number : FM := mkF 1 4
    (sSeq (sSet 1 (eC (.str "0123456789")))
    (sSeq (sIf (tOrM (tTru (e2 bEq (eVar 0) (eC (.str "")))) (tOrM (tTru (e2 bGt (eCall bLen (aCons (eVar 0) aNil)) (eC (.int 30)))) (tTru (e2 bNe (eFz (eLc (iVal (eVar 0)) [2] (gN 2) (tTru (e2 (inG2 true) (eVar 2) (eVar 1))) (eVar 2))) (eFz (eLst aNil)))))) (sRet (eC .non)) sNext)
    (sSeq (sIf (tAndM (tTru (e2 bEq (e2 bIxX (eVar 0) (eC (.int 0))) (eC (.str "0")))) (tTru (e2 bGt (eCall bLen (aCons (eVar 0) aNil)) (eC (.int 1))))) (sRet (eC .non)) sNext)
    (sSeq (sSet 3 (eC (.int 0)))
    (sSeq (sFor (iVal (eVar 0)) (gN 2) (sSet 3 (e2 bAdd (e2 bMul (eC (.int 10)) (eVar 3)) (eBM "str" bSIdx (eVar 1) (aCons (eVar 2) aNil)))))
    (sRet (eVar 3)))))))
noncomputable def m__law_within : FM := mkF 3 3
    (sRet (eIf (tAndM (tTru (e2 bNot (eVar 0) (eC .non))) (tTru (eChain bLe bLe (eVar 1) (eVar 0) (eVar 2)))) (eVar 0) (eC .non)))
noncomputable def m_parse_integer : FM := mkF 3 5
    (sSeq (sIf (tOrM (tNotM (tTru (eCall bIsi (aCons (eVar 0) (aCons (eC (.ty "str")) aNil))))) (tNotM (tTru (eChain bLe bLe (eC (.int 1)) (eCall bLen (aCons (eVar 0) aNil)) (eC (.int 30)))))) (sRet (eC .non)) sNext)
    (sSeq (sIf (tOrM (tNotM (tTru (eCall (bAll fun ks => ks.all id) (aCons (eFz (eLc (iVal (eVar 0)) [3] (gN 3) tYesM (e2 (inG2 false) (eVar 3) (eC (.str "0123456789"))))) aNil)))) (tAndM (tTru (e2 bEq (e2 bIxX (eVar 0) (eC (.int 0))) (eC (.str "0")))) (tTru (e2 bNe (eVar 0) (eC (.str "0")))))) (sRet (eC .non)) sNext)
    (sSeq (sSet 4 (eCall bInt (aCons (eVar 0) aNil)))
    (sRet (eIf (tTru (eChain bLe bLe (eVar 1) (eVar 4) (eVar 2))) (eVar 4) (eC .non))))))
noncomputable def m__law_integers_right : FM := mkF 1 9
    (sSeq (sFor (iRange rng1 (aCons (eC (.int 6)) aNil)) (gN 1) (sSeq (sSet 2 (eCall (fz m__law_figures) (aCons (eVar 0) aNil)))
    (sSeq (sSet 3 (eCall (fz m__law_number) (aCons (eVar 2) aNil)))
    (sSeq (sSet 4 (eIf (tTru (e2 bNot (eVar 3) (eC .non))) (eCall bMin2 (aCons (eVar 3) (aCons (e2 bSub (e2 bPow (eC (.int 10)) (eC (.int 30))) (eC (.int 9))) aNil))) (eC (.int 12))))
    (sSeq (sPar 5 6 (aCons (e2 bSub (e2 bAdd (eVar 4) (eCall (fz m__law_take) (aCons (eVar 0) (aCons (eC (.int 3)) aNil)))) (eC (.int 1))) (aCons (e2 bSub (e2 bAdd (eVar 4) (eCall (fz m__law_take) (aCons (eVar 0) (aCons (eC (.int 4)) aNil)))) (eC (.int 1))) aNil)))
    (sSeq (sIf (tTru (e2 bNe (eCall bReprE (aCons (eCal 1 0 (fun ws zs => (fz m_parse_integer) (gPerm [0, 1, 2] (ws ++ zs) [.int 0, .int 999999])) (aCons (eVar 2) aNil) aNil) aNil)) (eCall bReprE (aCons (eCall (fz m__law_within) (aCons (eVar 3) (aCons (eC (.int 0)) (aCons (eC (.int 999999)) aNil)))) aNil)))) (sRet (eC (.bl false))) sNext)
    (sSeq (sIf (tTru (e2 bNe (eCall bReprE (aCons (eCallK 1 2 (fun ws zs => (fz m_parse_integer) (gPerm [0, 1, 2] ws zs)) (aCons (eVar 2) aNil) (aCons (eVar 5) (aCons (eVar 6) aNil))) aNil)) (eCall bReprE (aCons (eCall (fz m__law_within) (aCons (eVar 3) (aCons (eVar 5) (aCons (eVar 6) aNil)))) aNil)))) (sRet (eC (.bl false))) sNext)
    (sSeq (sIf (tTru (e2 bNe (eCall bReprE (aCons (eCal 0 2 (fun ws zs => (fz m_parse_integer) (gPerm [1, 2, 0] (ws ++ zs) [.int 0])) aNil (aCons (eVar 6) (aCons (eVar 2) aNil))) aNil)) (eCall bReprE (aCons (eCall (fz m__law_within) (aCons (eVar 3) (aCons (eC (.int 0)) (aCons (eVar 6) aNil)))) aNil)))) (sRet (eC (.bl false))) sNext)
    (sIf (tTru (e2 bNe (eCall bReprE (aCons (eCal 1 1 (fun ws zs => (fz m_parse_integer) (gPerm [0, 1, 2] (ws ++ zs) [.int 999999])) (aCons (eVar 2) aNil) (aCons (eVar 5) aNil)) aNil)) (eCall bReprE (aCons (eCall (fz m__law_within) (aCons (eVar 3) (aCons (eVar 5) (aCons (eC (.int 999999)) aNil)))) aNil)))) (sRet (eC (.bl false))) sNext)))))))))
    (sSeq (sFor (iVal (eFz (eLst (aCons (eC (.int 999)) (aCons (eC (.int 1000)) (aCons (eC (.int 9999)) (aCons (eC (.int 10000)) (aCons (eC (.int 99999)) (aCons (eC (.int 100000)) (aCons (eC (.int 999999)) (aCons (eC (.int 1000000)) (aCons (eCall (fz m__law_take) (aCons (eVar 0) (aCons (eC (.int 1000000)) aNil))) aNil)))))))))))) (gN 3) (sIf (tTru (e2 bNe (eCall bReprE (aCons (eCal 1 0 (fun ws zs => (fz m_parse_integer) (gPerm [0, 1, 2] (ws ++ zs) [.int 0, .int 999999])) (aCons (eCall bStr (aCons (eVar 3) aNil)) aNil) aNil) aNil)) (eCall bReprE (aCons (eCall (fz m__law_within) (aCons (eVar 3) (aCons (eC (.int 0)) (aCons (eC (.int 999999)) aNil)))) aNil)))) (sRet (eC (.bl false))) sNext))
    (sSeq (sSet 7 (eFz (eLst (aCons (eC .non) (aCons (eC (.bl true)) (aCons (eC (.int 7)) (aCons (eFz (eLst (aCons (eC (.str "7")) aNil))) (aCons (eTup (aCons (eC (.str "7")) aNil)) (aCons (eFz (eDict [((eC (.str "7")), (eC (.int 7)))])) (aCons (e2 bMul (eC (.str "9")) (eC (.int 3000))) (aCons (e2 bMul (eC (.str "0")) (eC (.int 31))) (aCons (e2 bAdd (eC (.str "1")) (e2 bMul (eC (.str "0")) (eC (.int 30)))) aNil))))))))))))
    (sRet (e2 bEq (eFz (eLc (iVal (eVar 7)) [8] (gN 8) (tTru (e2 bNot (eCal 1 1 (fun ws zs => (fz m_parse_integer) (gPerm [0, 2, 1] (ws ++ zs) [.int 0])) (aCons (eVar 8) aNil) (aCons (e2 bSub (e2 bPow (eC (.int 10)) (eC (.int 30))) (eC (.int 1))) aNil)) (eC .non))) (eVar 8))) (eFz (eLst aNil)))))))
noncomputable def m__law_line : FM := mkF 1 10
    (sSeq (sPar3 1 2 3 (aCons (eLst aNil) (aCons (eC (.str "")) (aCons (eC (.bl true)) aNil))))
    (sSeq (sFor (iRange rng1 (aCons (e2 bAdd (eC (.int 1)) (eCall (fz m__law_take) (aCons (eVar 0) (aCons (eC (.int 5)) aNil)))) aNil)) (gN 4) (sSeq (sSet 5 (eC (.str "abz AZ09:/.-'~")))
    (sSeq (sSet 6 (eJoinR "" " " "x" (eFz (eLc (iRange rng1 (aCons (e2 bAdd (eC (.int 1)) (eCall (fz m__law_take) (aCons (eVar 0) (aCons (eC (.int 6)) aNil)))) aNil)) [7] (gN 7) tYesM (e2 bIxX (eVar 5) (eCall (fz m__law_take) (aCons (eVar 0) (aCons (eC (.int 14)) aNil))))))))
    (sSeq (sExpr (eBM "list" bApp (eVar 1) (aCons (eVar 6) aNil)))
    (sSet 2 (e2 bAdd (e2 bAdd (eVar 2) (e2 bIxX (eFz (eLst (aCons (eC (.str " ")) (aCons (eC (.str "")) aNil)))) (eCall bInt (aCons (e2 bEq (eVar 4) (eC (.int 0))) aNil)))) (eVar 6)))))))
    (sSeq (sSet 8 (eCall (fz m__law_take) (aCons (eVar 0) (aCons (eC (.int 9)) aNil))))
    (sSeq (sSet 9 (eCall (fz m__law_take) (aCons (eVar 0) (aCons (e2 bAdd (eCall bLen (aCons (eVar 2) aNil)) (eC (.int 1))) aNil))))
    (sSeq (sIf (tTru (e2 bEq (eVar 8) (eC (.int 0)))) (sPar 2 3 (aCons (e2 bAdd (eVar 2) (eC (.str " "))) (aCons (eC (.bl false)) aNil))) (sIf (tTru (e2 bEq (eVar 8) (eC (.int 1)))) (sPar 2 3 (aCons (e2 bAdd (eC (.str " ")) (eVar 2)) (aCons (eC (.bl false)) aNil))) (sIf (tTru (e2 bEq (eVar 8) (eC (.int 2)))) (sPar 2 3 (aCons (eFz (e2 bAdd (eFz (e2 bAdd (eFz (eSl (eVar 2) oNo (oSome (eVar 9)))) (eC (.str "\n")))) (eFz (eSl (eVar 2) (oSome (eVar 9)) oNo)))) (aCons (eC (.bl false)) aNil))) (sIf (tAndM (tTru (e2 bEq (eVar 8) (eC (.int 3)))) (tTru (e2 bGt (eCall bLen (aCons (eVar 1) aNil)) (eC (.int 1))))) (sPar 2 3 (aCons (eRepN (eVar 2) " " "  " 1) (aCons (eC (.bl false)) aNil))) sNext))))
    (sRet (eFz (eLst (aCons (eVar 2) (aCons (eIf (tTru (eVar 3)) (eVar 1) (eC .non)) aNil))))))))))
noncomputable def m_split_words : FM := mkF 1 3
    (sSeq (sIf (tNotM (tTru (eCall bIsi (aCons (eVar 0) (aCons (eC (.ty "str")) aNil))))) (sRet (eC .non)) sNext)
    (sSeq (sSet 1 (eBM "str" bSplit (eVar 0) (aCons (eC (.str " ")) aNil)))
    (sRet (eIf (tTru (eCall (bAll fun ks => ks.any id) (aCons (eFz (eLc (iVal (eVar 1)) [2] (gN 2) tYesM (eOr (e2 bEq (eVar 2) (eC (.str ""))) (e2 (inG2 false) (eC (.str "\n")) (eVar 2))))) aNil))) (eC .non) (eVar 1)))))
noncomputable def m__law_words_right : FM := mkF 1 9
    (sSeq (sFor (iRange rng1 (aCons (eC (.int 5)) aNil)) (gN 1) (sSeq (sAsg (gUn 2 (gCons (gN 2) (gCons (gN 3) gNil))) (eCall (fz m__law_line) (aCons (eVar 0) aNil)))
    (sFor (iRange rng1 (aCons (eC (.int 2)) aNil)) (gN 4) (sSeq (sSet 5 (eIf (tTru (e2 bEq (eVar 4) (eC (.int 1)))) (eCallK 0 1 (fun ws zs => (owa m_split_words) (gPerm [0] ws zs)) aNil (aCons (eVar 2) aNil)) (eCall (owa m_split_words) (aCons (eVar 2) aNil))))
    (sSeq (sIf (tTru (e2 bNe (eCall bReprE (aCons (eVar 5) aNil)) (eCall bReprE (aCons (eVar 3) aNil)))) (sRet (eC (.bl false))) sNext)
    (sIf (tTru (eCall bIsi (aCons (eVar 5) (aCons (eC (.ty "list")) aNil)))) (sExpr (eBM "list" bApp (eVar 5) (aCons (eC (.str "more")) aNil))) sNext))))))
    (sSeq (sSet 6 (e2 bAdd (eC (.int 300)) (eCall (fz m__law_take) (aCons (eVar 0) (aCons (eC (.int 1000)) aNil)))))
    (sSeq (sIf (tOrM (tTru (e2 bNe (eCall (owa m_split_words) (aCons (e2 bAdd (e2 bMul (eC (.str "ab ")) (eVar 6)) (eC (.str "a"))) aNil)) (eFz (e2 bAdd (eFz (e2 bMul (eFz (eLst (aCons (eC (.str "ab")) aNil))) (eVar 6))) (eFz (eLst (aCons (eC (.str "a")) aNil))))))) (tTru (e2 bNot (eCall (owa m_split_words) (aCons (e2 bMul (eC (.str "ab ")) (eVar 6)) aNil)) (eC .non)))) (sRet (eC (.bl false))) sNext)
    (sSeq (sSet 7 (eFz (eLst (aCons (eC .non) (aCons (eC (.bl true)) (aCons (eC (.int 3)) (aCons (eFz (eLst (aCons (eC (.str "a")) aNil))) (aCons (eTup (aCons (eC (.str "a")) aNil)) (aCons (eFz (eDict [((eC (.str "a")), (eC (.int 1)))])) (aCons (eC (.str "")) (aCons (eC (.str " ")) (aCons (eC (.str "  ")) (aCons (eC (.str "\n")) (aCons (eC (.str "a\nb")) aNil))))))))))))))
    (sRet (e2 bEq (eFz (eLc (iVal (eVar 7)) [8] (gN 8) (tTru (e2 bNot (eCall (owa m_split_words) (aCons (eVar 8) aNil)) (eC .non))) (eVar 8))) (eFz (eLst aNil))))))))
noncomputable def m_law : FM := mkF 1 3
    (sSeq (sFor (iRange rng1 (aCons (eCall bMax2 (aCons (eC (.int 2)) (aCons (eCall bMin2 (aCons (eC (.int 8)) (aCons (eCall bLen (aCons (eVar 0) aNil)) aNil))) aNil))) aNil)) (gN 1) (sSeq (sSet 2 (eCall (ow m__law_box) (aCons (eCall (fz m__law_cell) (aCons (eVar 0) (aCons (eVar 1) aNil))) aNil)))
    (sIf (tOrM (tNotM (tTru (eCall (fz m__law_integers_right) (aCons (eVar 2) aNil)))) (tNotM (tTru (eCall (fz m__law_words_right) (aCons (eVar 2) aNil))))) (sRet (eC (.bl false))) sNext)))
    (sRet (eC (.bl true))))
end K03
/-! K03_a: integers in texts. -/
noncomputable section
namespace K03
open PySem PySem.NumText L2 PM Bag
def dig (c : Nat) : Bool := decide (48 ≤ c ∧ c ≤ 57)
theorem digits_cps : ("0123456789" : Str).cps.toList = [48, 49, 50, 51, 52, 53, 54, 55, 56, 57] := by decide
theorem dig_mem (c : Nat) : decide (c ∈ ("0123456789" : Str).cps.toList) = dig c := by
  rw [digits_cps]
  unfold dig
  congr 1
  simp only [List.mem_cons, List.not_mem_nil, or_false, eq_iff_iff]
  omega
theorem in_dig (c : Nat) (g : MH) : inG2 false (.str (chs c)) (.str "0123456789") g = .ok (.bl (dig c)) g := by
  rw [← dig_mem]; rfl
theorem in_digN (c : Nat) (g : MH) : inG2 true (.str (chs c)) (.str "0123456789") g = .ok (.bl (!dig c)) g := by
  rw [← dig_mem]; rfl
theorem bls_map {α : Type} (f : α → Bool) (l : List α) : blsOf (l.map fun c => W.bl (f c)) = some (l.map f) := by
  induction l with
  | nil => rfl
  | cons a l ih => simp [blsOf, ih]
/-- the number of a text -/
def nmW (w : Str) : Option Nat := if w.length = 0 ∨ 30 < w.length ∨ ¬ (w.cps.toList.all dig = true) then none else if w.cps.toList.headD 0 = 48 ∧ 1 < w.length then none else some (digitsVal w.cps.toList)
def oI : Option Nat → W
  | none => .non
  | some n => .int (n : Int)
def wiN (o : Option Nat) (lo hi : Int) : Option Nat := o.bind fun n => if lo ≤ (n : Int) ∧ (n : Int) ≤ hi then some n else none
theorem within_ok (o : Option Nat) (lo hi : Int) (h : MH) : fz m__law_within [oI o, .int lo, .int hi] h = .ok (oI (wiN o lo hi)) h := by
  generalize hr_ : fz m__law_within _ _ = r_
  apply fz_eq hr_
  clear hr_
  refine ends_ret ?_
  cases o with
  | none =>
    have nn : ∀ G, bNot .non .non G = .ok (.bl false) G := fun _ => rfl
    simp [-ev_for, -ev_lc, -ev_dc, -List.map_map, -exists_and_left, -exists_and_right, oI, nn, wiN, e_rt, fn_rt]
  | some n =>
    have nn : ∀ G, bNot (.int (n : Int)) .non G = .ok (.bl true) G := fun _ => rfl
    by_cases a : lo ≤ (n : Int)
    · by_cases c : (n : Int) ≤ hi
      · simp [-ev_for, -ev_lc, -ev_dc, -List.map_map, -exists_and_left, -exists_and_right, oI, nn, wiN, a, c, e_rt, fn_rt]
      · simp [-ev_for, -ev_lc, -ev_dc, -List.map_map, -exists_and_left, -exists_and_right, oI, nn, wiN, a, c, e_rt, fn_rt]
    · simp [-ev_for, -ev_lc, -ev_dc, -List.map_map, -exists_and_left, -exists_and_right, oI, nn, wiN, a, e_rt, fn_rt]
end K03
/-! K03_b: the law's own number, and the program's. -/
noncomputable section
namespace K03
open PySem PySem.NumText L2 PM Bag
section
variable {h : MH} {w : Str}
theorem bIsi_s (y : Str) (G : MH) : bIsi [.str y, .ty "str"] G = .ok (.bl true) G := rfl
theorem nx_s (x : Str) (i : Nat) (g : MH) : (itS x).nx i g = some (x.cps.toList[i]?.map fun c => .str (chs c)) := rfl
theorem head_ix {c : Nat} {cs : List Nat} (hl : w.length ≤ sizeLine) (e : w.cps.toList = c :: cs) (G : MH) : bIxX (.str w) (.int 0) G = .ok (.str (chs c)) G := by
  have a : atI w.cps.toList 0 = some c := by
    rw [e]
    simp [atI, ixN]
  unfold bIxX
  show bIx (.str w) (.int 0) G = _
  simp [bIx, a, chs, hl]
theorem chs_eq (c d : Nat) : (chs c == chs d) = decide (c = d) := by
  rw [Bool.eq_iff_iff, decide_eq_true_iff, beq_iff_eq]
  constructor
  · intro e
    have : (#[c] : Array Nat) = #[d] := congrArg Str.cps e
    simpa using this
  · rintro rfl; rfl
theorem zero_eq : ("0" : Str) = chs 48 := by decide
theorem z48 {c : Nat} : chs c = ("0" : Str) ↔ c = 48 := by
  have := chs_eq c 48
  rw [← zero_eq, Bool.eq_iff_iff, beq_iff_eq, decide_eq_true_iff] at this
  exact this
theorem eq_zero (c : Nat) (G : MH) : bEq (.str (chs c)) (.str "0") G = .ok (.bl (decide (c = 48))) G := by
  show R.ok (W.bl (chs c == ("0" : Str))) G = _
  rw [zero_eq, chs_eq]
theorem idx_dig {c : Nat} (hc : dig c = true) (G : MH) : bSIdx [.str "0123456789", .str (chs c)] G = .ok (.int ((c - 48 : Nat) : Int)) G := by
  have d : ∀ k : Fin 10, Builtin.Str.occurrences ("0123456789" : Str) (chs (48 + k.val)) 0 ("0123456789" : Str).length 1 = [k.val] := by decide +kernel
  unfold dig at hc
  have hc := of_decide_eq_true hc
  have e := d ⟨c - 48, by omega⟩
  have : 48 + (c - 48) = c := by omega
  simp only [this] at e
  unfold bSIdx
  dsimp only
  rw [e]
theorem eq_ss2 (x y : Str) (G : MH) : bEq (.str x) (.str y) G = .ok (.bl (x == y)) G := rfl
theorem str_nil (w : Str) : (w == ("" : Str)) = decide (w.length = 0) := by
  rw [Bool.eq_iff_iff, decide_eq_true_iff, beq_iff_eq]
  constructor
  · rintro rfl; rfl
  · intro e
    obtain ⟨⟨l⟩⟩ := w
    have : l = [] := List.eq_nil_of_length_eq_zero e
    subst this
    rfl
theorem all_filter (l : List Nat) : decide (((l.filter fun c => !dig c).map chs) = []) = l.all dig := by
  rw [Bool.eq_iff_iff, decide_eq_true_iff, List.map_eq_nil_iff, List.filter_eq_nil_iff, List.all_eq_true]
  exact ⟨fun q x hx => by simpa using q x hx, fun q x hx => by simpa using q x hx⟩
theorem filt_nil (cw : Cp w) (h : MH) : bNe (.vl ((w.cps.toList.filter fun c => !dig c).map fun c => W.str (chs c))) (.vl []) h = .ok (.bl (!w.cps.toList.all dig)) h := by
  have q := ne_list (h := h) ((w.cps.toList.filter fun c => !dig c).map chs) [] (fun s hs => by
    obtain ⟨a, ha, rfl⟩ := List.mem_map.mp hs
    intro z hz
    have : z = a := by simpa [chs] using hz
    rw [this]
    exact cw a (List.mem_filter.mp ha).1) (fun _ z => nomatch z)
  rw [all_filter, List.map_map] at q
  exact q
theorem digits_lt : ∀ {l : List Nat} {k : Nat}, (∀ c ∈ l, dig c = true) → l.length ≤ k → digitsVal l < 10 ^ k := by
  have key : ∀ (l : List Nat) (a k : Nat), (∀ c ∈ l, dig c = true) → l.length ≤ k → l.foldl (fun acc c => acc * 10 + (c - 48)) a < (a + 1) * 10 ^ k := by
    intro l
    induction l with
    | nil => intro a k _ _; exact Nat.lt_of_lt_of_le (Nat.lt_succ_self a) (Nat.le_mul_of_pos_right _ (Nat.pow_pos (by decide)))
    | cons c l ih =>
      intro a k hd hl
      obtain ⟨k, rfl⟩ : ∃ j, k = j + 1 := ⟨k - 1, by simp at hl; omega⟩
      have hc := hd c (.head _)
      unfold dig at hc
      have hc := of_decide_eq_true hc
      have := ih (a * 10 + (c - 48)) k (fun x hx => hd x (.tail _ hx)) (by simpa using hl)
      rw [List.foldl_cons]
      refine Nat.lt_of_lt_of_le this ?_
      rw [Nat.pow_succ, Nat.mul_comm (10 ^ k) 10, ← Nat.mul_assoc]
      exact Nat.mul_le_mul_right _ (by omega)
  intro l k hd hl
  have := key l 0 k hd hl
  unfold digitsVal
  rw [Nat.zero_add, Nat.one_mul] at this
  exact this
set_option maxHeartbeats 2000000 in
theorem number_ok (cw : Cp w) (hl : w.length ≤ sizeLine) : fz m__law_number [.str w] h = .ok (oI (nmW w)) h := by
  have ls : ∀ G, bLen [.str w] G = .ok (.int w.length) G := fun G => len_s hl
  have lc : w.length = w.cps.toList.length := len_cps w
  generalize hr_ : fz m__law_number _ _ = r_
  apply fz_eq hr_
  clear hr_
  refine ends_seq ?_
  simp [-ev_for, -ev_lc, -ev_dc, -List.map_map, -exists_and_left, -exists_and_right, e_nx, e_rt]
  refine then_i ?_
  by_cases e0 : w.length = 0
  · have nn : nmW w = none := if_pos (.inl e0)
    rw [nn]
    refine ends_seq ?_
    simp [-ev_for, -ev_lc, -ev_dc, -List.map_map, -exists_and_left, -exists_and_right, eq_ss2, str_nil, e0, e_rt, fn_rt, oI]
  by_cases e30 : 30 < w.length
  · have nn : nmW w = none := if_pos (.inr (.inl e30))
    have i30 : (30 : Int) < w.length := by omega
    rw [nn]
    refine ends_seq ?_
    simp [-ev_for, -ev_lc, -ev_dc, -List.map_map, -exists_and_left, -exists_and_right, eq_ss2, str_nil, e0, ls, i30, e_rt, fn_rt, oI]
  have i30 : ¬ (30 : Int) < w.length := by omega
  have lcE : ∀ (x3 : Option W) (G : MH), fin G (eLc (iVal (eVar 0)) [2] (gN 2) (tTru (e2 (inG2 true) (eVar 2) (eVar 1))) (eVar 2) [some (.str w), some (.str "0123456789"), none, x3] G) = .ok (.vl ((w.cps.toList.filter fun c => !dig c).map fun c => W.str (chs c))) G := fun x3 G => by
    generalize hr : fin _ (eLc _ _ _ _ _ _ _) = r
    exact lcF hr w.cps.toList (fun c => .str (chs c)) (fun c => !dig c) (fun c => .str (chs c)) (mi := itS w) (by simp) rfl (fun i g => nx_s w i g) (by rw [← lc]; exact hl) (fun c hc acc => ⟨_, rfl, by
      have nl := fun g => in_digN c g
      simp [wipeM, nl], fun _ => by simp [wipeM]⟩) (fun _ _ _ => .str _)
  have f0 : ∀ G : MH, fin G (.ok (.ref G.length) (G ++ [Ob.lst []])) = .ok (.vl []) G := fun G => fin_l0 fun _ z => nomatch z
  have z0 : (0 : Nat) ≤ sizeLine := Nat.zero_le _
  have lcE' := fun x3 G => lcE x3 G
  by_cases ed : w.cps.toList.all dig = true
  rotate_left
  · have nn : nmW w = none := if_pos (.inr (.inr ed))
    have ed' : w.cps.toList.all dig = false := Bool.eq_false_iff.mpr ed
    have fn := filt_nil cw
    rw [ed'] at fn
    rw [nn]
    refine ends_seq ?_
    simp [-ev_for, -ev_lc, -ev_dc, -List.map_map, -exists_and_left, -exists_and_right, eq_ss2, str_nil, e0, ls, i30]
    rw [lcE']
    simp [-ev_for, -ev_lc, -ev_dc, -List.map_map, -exists_and_left, -exists_and_right, f0, z0, fn, e_rt, fn_rt, oI]
  have fn := filt_nil cw
  rw [ed] at fn
  obtain ⟨c, cs, ec⟩ : ∃ c cs, w.cps.toList = c :: cs := by
    cases e : w.cps.toList with
    | nil => rw [e] at lc; exact absurd lc e0
    | cons c cs => exact ⟨c, cs, rfl⟩
  have hi := head_ix hl ec
  refine ends_seq ?_
  simp [-ev_for, -ev_lc, -ev_dc, -List.map_map, -exists_and_left, -exists_and_right, eq_ss2, str_nil, e0, ls, i30]
  rw [lcE']
  simp [-ev_for, -ev_lc, -ev_dc, -List.map_map, -exists_and_left, -exists_and_right, f0, z0, fn, e_nx]
  refine then_i ?_
  have hd : w.cps.toList.headD 0 = c := by rw [ec]; rfl
  by_cases e1 : c = 48 ∧ 1 < w.length
  · have nn : nmW w = none := (if_neg (by simp [e0, e30, ed])).trans (if_pos ⟨hd.trans e1.1, e1.2⟩)
    have l1 : (1 : Int) < w.length := by omega
    rw [nn]
    refine ends_seq ?_
    have zz : chs c = ("0" : Str) := z48.mpr e1.1
    simp [-ev_for, -ev_lc, -ev_dc, -List.map_map, -exists_and_left, -exists_and_right, hi, zz, ls, l1, e_rt, fn_rt, oI]
  have nn : nmW w = some (digitsVal w.cps.toList) := (if_neg (by simp [e0, e30, ed])).trans (if_neg (by rw [hd]; exact e1))
  rw [nn]
  refine ends_seq ?_
  have skip : (tAndM (tTru (e2 bEq (e2 bIxX (eVar 0) (eC (.int 0))) (eC (.str "0")))) (tTru (e2 bGt (eCall bLen (aCons (eVar 0) aNil)) (eC (.int 1))))) [some (.str w), some (.str "0123456789"), none, none] h = .ok false h := by
    by_cases c48 : c = 48
    · have l1 : ¬ (1 : Int) < w.length := fun z => e1 ⟨c48, by omega⟩
      have zz : chs c = ("0" : Str) := z48.mpr c48
      simp [-ev_for, -ev_lc, -ev_dc, hi, zz, ls, l1]
    · have zz : ¬ chs c = ("0" : Str) := fun z => c48 (z48.mp z)
      simp [-ev_for, -ev_lc, -ev_dc, hi, zz]
  rw [ev_sif, skip]
  simp [-ev_for, -ev_lc, -ev_dc, -List.map_map, -exists_and_left, -exists_and_right, e_nx]
  refine then_i ?_
  refine ends_seq ?_
  simp [-ev_for, -ev_lc, -ev_dc, -List.map_map, -exists_and_left, -exists_and_right, e_nx, e_rt]
  refine then_i ?_
  refine ends_seq ?_
  rw [ev_for]
  simp [-ev_for, -ev_lc, -ev_dc, -List.map_map, -exists_and_left, -exists_and_right]
  refine ends_for w.cps.toList (fun c => .str (chs c)) (fun i σ g => ∃ x2, σ = [some (.str w), some (.str "0123456789"), x2, some (.int ((digitsVal (w.cps.toList.take i) : Nat) : Int))] ∧ g = h) (by simp) (fun i σ g _ => nx_s w i g) ⟨_, rfl, rfl⟩ (fun i a σ g ha ⟨x2, e1, e2⟩ => ?_) (fun σ g ⟨x2, e1, e2⟩ => ?_)
  · subst e1 e2
    refine ⟨_, rfl, ?_⟩
    simp only [List.set_cons_zero, List.set_cons_succ]
    have da : dig a = true := List.all_eq_true.mp ed a (List.mem_of_getElem? ha)
    have ix := fun G => idx_dig da G
    have bt : bty (.str "0123456789") g = some "str" := rfl
    have tk : w.cps.toList.take (i + 1) = w.cps.toList.take i ++ [a] := by rw [List.take_succ, ha]; rfl
    have dv : digitsVal (w.cps.toList.take (i + 1)) = digitsVal (w.cps.toList.take i) * 10 + (a - 48) := by
      rw [tk]
      unfold digitsVal
      rw [List.foldl_append]
      rfl
    have bd : digitsVal (w.cps.toList.take i) < 10 ^ 30 := digits_lt (fun c hc => List.all_eq_true.mp ed c (List.mem_of_mem_take hc)) (by rw [List.length_take]; omega)
    have ml : bMul (.int 10) (.int ((digitsVal (w.cps.toList.take i) : Nat) : Int)) g = .ok (.int (10 * ((digitsVal (w.cps.toList.take i) : Nat) : Int))) g := by
      unfold bMul
      dsimp only
      rw [if_pos]
      have : Nat.log2 (digitsVal (w.cps.toList.take i)) < 200 := by
        by_cases z : digitsVal (w.cps.toList.take i) = 0
        · rw [z]; decide
        · exact (Nat.log2_lt z).mpr (Nat.lt_of_lt_of_le bd (by decide))
      have e10 : Nat.log2 (10 : Int).natAbs = 3 := by decide
      rw [e10, Int.natAbs_natCast]
      omega
    have ad : ∀ x y : Int, bAdd (.int x) (.int y) g = .ok (.int (x + y)) g := fun _ _ => rfl
    simp [-ev_for, -ev_lc, -ev_dc, -List.map_map, -exists_and_left, -exists_and_right, ml, bt, ix, ad, e_nx]
    rw [dv]
    congr 2
    omega
  · subst e1 e2
    rw [List.take_length]
    refine then_i ?_
    refine ends_ret ?_
    simp [-ev_for, -ev_lc, -ev_dc, -List.map_map, -exists_and_left, -exists_and_right, e_rt, fn_rt, oI]
end
end K03
/-! K03_c: parse_integer. -/
noncomputable section
namespace K03
open PySem PySem.NumText L2 PM Bag
section
variable {h : MH} {w : Str} {x : W}
theorem parse_no (i : bIsi [x, .ty "str"] h = .ok (.bl false) h) (lo hi : Int) : fz m_parse_integer [x, .int lo, .int hi] h = .ok .non h := by
  generalize hr_ : fz m_parse_integer _ _ = r_
  apply fz_eq hr_
  clear hr_
  refine ends_seq ?_
  simp [-ev_for, -ev_lc, -ev_dc, -List.map_map, -exists_and_left, -exists_and_right, i, e_rt, fn_rt]
set_option maxHeartbeats 2000000 in
theorem parse_ok (cw : Cp w) (hl : w.length ≤ sizeLine) (lo hi : Int) : fz m_parse_integer [.str w, .int lo, .int hi] h = .ok (oI (wiN (nmW w) lo hi)) h := by
  have ls : ∀ G, bLen [.str w] G = .ok (.int w.length) G := fun G => len_s hl
  have lc : w.length = w.cps.toList.length := len_cps w
  have is_ := fun G => bIsi_s w G
  generalize hr_ : fz m_parse_integer _ _ = r_
  apply fz_eq hr_
  clear hr_
  by_cases e0 : w.length = 0
  · have nn : nmW w = none := if_pos (.inl e0)
    rw [nn]
    refine ends_seq ?_
    simp [-ev_for, -ev_lc, -ev_dc, -List.map_map, -exists_and_left, -exists_and_right, is_, ls, e0, e_rt, fn_rt, oI, wiN]
  have i1 : (1 : Int) ≤ w.length := by omega
  by_cases e30 : 30 < w.length
  · have nn : nmW w = none := if_pos (.inr (.inl e30))
    have i30 : ¬ (w.length : Int) ≤ 30 := by omega
    rw [nn]
    refine ends_seq ?_
    simp [-ev_for, -ev_lc, -ev_dc, -List.map_map, -exists_and_left, -exists_and_right, is_, ls, i1, i30, e_rt, fn_rt, oI, wiN]
  have i30 : (w.length : Int) ≤ 30 := by omega
  refine ends_seq ?_
  simp [-ev_for, -ev_lc, -ev_dc, -List.map_map, -exists_and_left, -exists_and_right, is_, ls, i1, i30, e_nx]
  refine then_i ?_
  have lcE : ∀ (x1 x2 x4 : Option W) (G : MH), fin G (eLc (iVal (eVar 0)) [3] (gN 3) tYesM (e2 (inG2 false) (eVar 3) (eC (.str "0123456789"))) [some (.str w), x1, x2, none, x4] G) = .ok (.vl (w.cps.toList.map fun c => W.bl (dig c))) G := fun x1 x2 x4 G => by
    generalize hr : fin _ (eLc _ _ _ _ _ _ _) = r
    exact lc1 hr w.cps.toList (fun c => .str (chs c)) (fun c => .bl (dig c)) (mi := itS w) (by simp) rfl (fun i g => nx_s w i g) (by rw [← lc]; exact hl) (fun c hc acc => ⟨_, rfl, by
      simp [wipeM, in_dig]⟩) (fun _ _ => .bl _)
  have al : ∀ G, bAll (fun ks => ks.all id) [.vl (w.cps.toList.map fun c => W.bl (dig c))] G = .ok (.bl (w.cps.toList.all dig)) G := fun G => by
    rw [all_vl (bls_map dig _), List.all_map]
    rfl
  obtain ⟨c, cs, ec⟩ : ∃ c cs, w.cps.toList = c :: cs := by
    cases e : w.cps.toList with
    | nil => rw [e] at lc; exact absurd lc e0
    | cons c cs => exact ⟨c, cs, rfl⟩
  have hix := head_ix hl ec
  have hd : w.cps.toList.headD 0 = c := by rw [ec]; rfl
  by_cases ed : w.cps.toList.all dig = true
  rotate_left
  · have nn : nmW w = none := if_pos (.inr (.inr ed))
    have ed' : w.cps.toList.all dig = false := Bool.eq_false_iff.mpr ed
    rw [ed'] at al
    rw [nn]
    refine ends_seq ?_
    simp [-ev_for, -ev_lc, -ev_dc, -List.map_map, -exists_and_left, -exists_and_right]
    rw [lcE]
    simp [-ev_for, -ev_lc, -ev_dc, -List.map_map, -exists_and_left, -exists_and_right, al, e_rt, fn_rt, oI, wiN]
  rw [ed] at al
  have zero1 : c = 48 → (1 < w.length ↔ ¬ w = ("0" : Str)) := fun c48 => by
    constructor
    · rintro l rfl
      exact absurd l (by decide +kernel)
    · intro n
      refine Classical.byContradiction fun z => n ?_
      have l1 : w.cps.toList.length = 1 := by omega
      rw [ec] at l1
      have : cs = [] := List.eq_nil_of_length_eq_zero (by simpa using l1)
      rw [zero_eq]
      obtain ⟨⟨l⟩⟩ := w
      show Str.mk (Array.mk l) = chs 48
      have ec : l = c :: cs := ec
      rw [ec, this, c48]
      rfl
  have iv : nmW w = some (digitsVal w.cps.toList) → ∀ G, bInt [.str w] G = .ok (.int ((digitsVal w.cps.toList : Nat) : Int)) G := fun _ G => by
    have := intText_digits (x := w) (fun c hc => by
      have := List.all_eq_true.mp ed c hc
      unfold dig at this
      exact of_decide_eq_true this) (by rw [ec]; simp) (by omega)
    unfold bInt
    dsimp only
    rw [this]
    dsimp only
    rw [if_pos (by omega)]
  by_cases e1 : c = 48 ∧ 1 < w.length
  · have nn : nmW w = none := (if_neg (by simp [e0, e30, ed])).trans (if_pos ⟨hd.trans e1.1, e1.2⟩)
    have zz : chs c = ("0" : Str) := z48.mpr e1.1
    have wz : ¬ w = ("0" : Str) := (zero1 e1.1).mp e1.2
    rw [nn]
    refine ends_seq ?_
    simp [-ev_for, -ev_lc, -ev_dc, -List.map_map, -exists_and_left, -exists_and_right]
    rw [lcE]
    simp [-ev_for, -ev_lc, -ev_dc, -List.map_map, -exists_and_left, -exists_and_right, al, hix, zz, wz, e_rt, fn_rt, oI, wiN]
  have nn : nmW w = some (digitsVal w.cps.toList) := (if_neg (by simp [e0, e30, ed])).trans (if_neg (by rw [hd]; exact e1))
  have iv := iv nn
  rw [nn]
  refine ends_seq ?_
  have skip : (tOrM (tNotM (tTru (eCall (bAll fun ks => ks.all id) (aCons (eFz (eLc (iVal (eVar 0)) [3] (gN 3) tYesM (e2 (inG2 false) (eVar 3) (eC (.str "0123456789"))))) aNil)))) (tAndM (tTru (e2 bEq (e2 bIxX (eVar 0) (eC (.int 0))) (eC (.str "0")))) (tTru (e2 bNe (eVar 0) (eC (.str "0")))))) [some (.str w), some (.int lo), some (.int hi), none, none] h = .ok false h := by
    have lcE' : eFz (eLc (iVal (eVar 0)) [3] (gN 3) tYesM (e2 (inG2 false) (eVar 3) (eC (.str "0123456789")))) [some (.str w), some (.int lo), some (.int hi), none, none] h = _ := lcE _ _ _ h
    have a1 : (tNotM (tTru (eCall (bAll fun ks => ks.all id) (aCons (eFz (eLc (iVal (eVar 0)) [3] (gN 3) tYesM (e2 (inG2 false) (eVar 3) (eC (.str "0123456789"))))) aNil)))) [some (.str w), some (.int lo), some (.int hi), none, none] h = .ok false h := by
      simp only [tNotM, tTru, eCall, ev_cons, lcE', R.bind_ok, ev_nil, al]
      rfl
    show ((tNotM _ _ _).bind _) = _
    rw [a1]
    by_cases c48 : c = 48
    · have zz : chs c = ("0" : Str) := z48.mpr c48
      have wz : w = ("0" : Str) := Classical.byContradiction fun z => e1 ⟨c48, (zero1 c48).mpr z⟩
      simp [-ev_for, -ev_lc, -ev_dc, hix, zz]
      subst wz
      rfl
    · have zz : ¬ chs c = ("0" : Str) := fun z => c48 (z48.mp z)
      simp [-ev_for, -ev_lc, -ev_dc, hix, zz]
  rw [ev_sif, skip]
  simp [-ev_for, -ev_lc, -ev_dc, -List.map_map, -exists_and_left, -exists_and_right, e_nx]
  refine then_i ?_
  refine ends_seq ?_
  simp [-ev_for, -ev_lc, -ev_dc, -List.map_map, -exists_and_left, -exists_and_right, e_nx, e_rt, iv]
  refine then_i ?_
  refine ends_ret ?_
  generalize digitsVal w.cps.toList = n
  by_cases a : lo ≤ (n : Int)
  · by_cases c : (n : Int) ≤ hi
    · simp [-ev_for, -ev_lc, -ev_dc, -List.map_map, -exists_and_left, -exists_and_right, wiN, a, c, e_rt, fn_rt, oI]
    · simp [-ev_for, -ev_lc, -ev_dc, -List.map_map, -exists_and_left, -exists_and_right, wiN, a, c, e_rt, fn_rt, oI]
  · simp [-ev_for, -ev_lc, -ev_dc, -List.map_map, -exists_and_left, -exists_and_right, wiN, a, e_rt, fn_rt, oI]
end
end K03
/-! K03_d: digits drawn. -/
noncomputable section
namespace Bag
open PySem L2 PM
/-- a draw below a greater number (as takeG_ok) -/
theorem take_m (a b c : Int) (ha : 0 ≤ a ∧ a ≤ 1000000000) (hb : 0 ≤ b ∧ b ≤ 1000000000) (hc : 0 ≤ c ∧ c ≤ 1000000000) {bb N : Nat} {h0 : MH} {m : Int} (B : Bx bb N h0) (hN : N ≤ 1000000000) (hm : 0 < m) (h9 : m < 2000000) : ∃ r h', fz (takeG a b c) [.ref bb, .int m] h0 = .ok (.int r) h' ∧ 0 ≤ r ∧ r < m ∧ Bu bb (N + 1) h0 h' := by
  have core : ∀ h, Bx bb N h → ∃ r h', fz (takeG a b c) [.ref bb, .int m] h = .ok (.int r) h' ∧ 0 ≤ r ∧ r < m ∧ Bu bb (N + 1) h h' := fun h B => by
    obtain ⟨x, y, z, e, y0, y1, z0, z1⟩ := B
    have em : mutAt h bb = some [.int x, .int y, .int z] := by unfold mutAt; rw [e]
    have hl := lst_of_mut em
    have lt := get_lt e
    have hm9 : m.natAbs.log2 < 9000 := by have := log2_lt64 (n := m.natAbs) (by omega); omega
    have i0 : bIxX (.ref bb) (.int 0) h = .ok (.int x) h := ixX_l hl rfl
    have s0 : putA (.ref bb) (.int 0) (.int (x / m)) h = some (h.set bb (.lst [.int (x / m), .int y, .int z])) := putA_l (n := 0) em rfl
    have s2 : putA (.ref bb) (.int 2) (.int (z + 1)) h = some (h.set bb (.lst [.int x, .int y, .int (z + 1)])) := putA_l (n := 2) em rfl
    have clo : ∀ u v t : Int, ClsO h.length (.lst [.int u, .int v, .int t]) := fun u v t w hw => by
      simp only [List.mem_cons, List.not_mem_nil, or_false] at hw
      rcases hw with rfl | rfl | rfl <;> exact .int _
    have fe : ∀ {u v t r : Int}, takeG a b c [.ref bb, .int m] h = .ok (.int r) (h.set bb (.lst [.int u, .int v, .int t])) → fz (takeG a b c) [.ref bb, .int m] h = .ok (.int r) (h.set bb (.lst [.int u, .int v, .int t])) := fun {u v t r} q => by
      show fin h (takeG a b c [.ref bb, .int m] h) = _
      rw [q]
      exact fin_set (clo u v t) (.int _)
    have bu : ∀ {u v t : Int}, 0 ≤ v → v < 2147483629 → 0 ≤ t → t ≤ (N + 1 : Nat) → Bu bb (N + 1) h (h.set bb (.lst [.int u, .int v, .int t])) := fun {u v t} a1 a2 a3 a4 =>
      ⟨List.length_set, fun i hi => List.getElem?_set_ne (fun z => hi z.symm), u, v, t, List.getElem?_set_self lt, a1, a2, a3, a4⟩
    by_cases hx : 0 < x
    · refine ⟨x % m, _, fe (u := x / m) (v := y) (t := z) ?_, Int.emod_nonneg _ (by omega), Int.emod_lt_of_pos _ hm, bu y0 y1 z0 (by omega)⟩
      simp [takeG, mkF, i0, hx, mod_ii hm, div_ii hm hm9, s0]
    · have h2 : mutAt (h.set bb (.lst [.int x, .int y, .int (z + 1)])) bb = some [.int x, .int y, .int (z + 1)] := mut_set lt
      have hl2 := lst_of_mut h2
      have a0 : bIxX (.ref bb) (.int 2) h = .ok (.int z) h := ixX_l hl rfl
      have a1 : bIxX (.ref bb) (.int 1) (h.set bb (.lst [.int x, .int y, .int (z + 1)])) = .ok (.int y) _ := ixX_l hl2 rfl
      have a2 : bIxX (.ref bb) (.int 2) (h.set bb (.lst [.int x, .int y, .int (z + 1)])) = .ok (.int (z + 1)) _ := ixX_l hl2 rfl
      have m1 : ∀ g, bMul (.int a) (.int (z + 1)) g = .ok (.int (a * (z + 1))) g := fun g => mul_small (by omega) (by omega)
      have m2 : ∀ g, bMul (.int c) (.int (z + 1)) g = .ok (.int (c * (z + 1))) g := fun g => mul_small (by omega) (by omega)
      have z9 : z + 1 ≤ 1000000001 := by omega
      have az : a * (z + 1) ≤ 1000000000 * 1000000001 := Int.mul_le_mul ha.2 z9 (by omega) (by decide)
      have az0 : 0 ≤ a * (z + 1) := Int.mul_nonneg ha.1 (by omega)
      have cz : c * (z + 1) ≤ 1000000000 * 1000000001 := Int.mul_le_mul hc.2 z9 (by omega) (by decide)
      have cz0 : 0 ≤ c * (z + 1) := Int.mul_nonneg hc.1 (by omega)
      generalize a * (z + 1) = az' at *
      generalize c * (z + 1) = cz' at *
      have p1 : ∀ g, bPow (.int (y + az' + b)) (.int 5) g = .ok (.int ((y + az' + b) ^ 5)) g := fun g => pow_ii (by decide) (by decide) (by omega)
      generalize hk : (y + az' + b) ^ 5 = k at p1
      have k0 := Int.emod_nonneg k (show (2147483647 : Int) ≠ 0 by decide)
      have k1 := Int.emod_lt_of_pos k (show (0 : Int) < 2147483647 by decide)
      have p2 : ∀ g, bPow (.int (k % 2147483647 + cz')) (.int 3) g = .ok (.int ((k % 2147483647 + cz') ^ 3)) g := fun g => pow_ii (by decide) (by decide) (by omega)
      generalize hj : (k % 2147483647 + cz') ^ 3 = j at p2
      refine ⟨j % 2147483587 / 16 % m, _, fe (u := x) (v := y) (t := z + 1) ?_, Int.emod_nonneg _ (by omega), Int.emod_lt_of_pos _ hm, bu y0 y1 (by omega) (by omega)⟩
      have d1 : ∀ (i : Int) g, bMod (.int i) (.int 2147483647) g = .ok (.int (i % 2147483647)) g := fun i g => mod_ii (by decide)
      have d2 : ∀ (i : Int) g, bMod (.int i) (.int 2147483587) g = .ok (.int (i % 2147483587)) g := fun i g => mod_ii (by decide)
      have d3 : ∀ (i : Int) g, bDiv (.int i) (.int 16) g = .ok (.int (i / 16)) g := fun i g => div_ii (by decide) (by decide)
      have d4 : ∀ (i : Int) g, bMod (.int i) (.int m) g = .ok (.int (i % m)) g := fun i g => mod_ii hm
      simp [takeG, mkF, i0, hx, s2, a0, a1, a2, m1, m2, p1, p2, d1, d2, d3, d4]
  exact core h0 B
end Bag
namespace K03
open PySem PySem.NumText L2 PM Bag
theorem app_cps (x y : Str) : (x ++ y).cps.toList = x.cps.toList ++ y.cps.toList := by
  show (Array.append x.cps y.cps).toList = _
  simp
theorem app_len (x y : Str) : (x ++ y).length = x.length + y.length := by
  rw [len_cps, len_cps x, len_cps y, app_cps, List.length_append]
theorem cp_app {x y : Str} (c : Cp x) (d : Cp y) : Cp (x ++ y) := fun a ha => by
  rw [app_cps] at ha
  rcases List.mem_append.mp ha with ha | ha
  · exact c a ha
  · exact d a ha
theorem add_s {x y : Str} (h1 : x.length + y.length ≤ 100000) (G : MH) : bAdd (.str x) (.str y) G = .ok (.str (x ++ y)) G := by
  show (if x.length + y.length ≤ sizeLine then R.ok (W.str (x ++ y)) G else R.stuck) = _
  rw [if_pos (by rw [line_eq]; omega)]
theorem sign_at {S : Str} {k : Int} (h0 : 0 ≤ k) (h1 : k < S.length) (hz : S.length ≤ sizeLine) : ∃ c ∈ S.cps.toList, ∀ G, bIxX (.str S) (.int k) G = .ok (.str (chs c)) G := by
  obtain ⟨c, e, m⟩ := atI_lt (xs := S.cps.toList) h0 (by rw [← len_cps]; exact h1)
  refine ⟨c, m, fun G => ?_⟩
  show bIx (.str S) (.int k) G = _
  simp [bIx, e, chs, hz]
theorem cp_join {cs : List Nat} (h : ∀ c ∈ cs, c < 0x110000) : Cp (Txt.join "" (cs.map chs)) := fun c hc => by
  rw [join_chs] at hc
  exact h c hc
theorem len_join (cs : List Nat) : (Txt.join "" (cs.map chs)).length = cs.length := by rw [len_cps, join_chs]
theorem sum_chs (cs : List Nat) : ((cs.map chs).map (·.length)).sum = cs.length := by
  have := sum_ones (l := cs.map chs) (fun x hx => by obtain ⟨c, _, rfl⟩ := List.mem_map.mp hx; rfl)
  rw [this, List.length_map]
theorem tk : TakeOk m__law_take := takeG_ok 15487289 191 104723 (by decide) (by decide) (by decide)
theorem ends_ifT {σ : MS} {G : MH} {t : TM} {m n : SM} {F : En} (q : t σ G = .ok true G) (c : (m σ G).ends F) : (sIf t m n σ G).ends F := by
  rw [ev_sif, q]
  exact c
section
variable {b N : Nat} {h G : MH} {w : Str}
theorem draw' (B : Bx b N G) (hN : N ≤ 1000000) {m : Int} (h0 : 0 < m) (h9 : m ≤ 1000000) : ∃ (r : Nat) (G' : MH), fz m__law_take [.ref b, .int m] G = .ok (.int (r : Int)) G' ∧ (r : Int) < m ∧ Bu b (N + 1) G G' := by
  obtain ⟨r, G', e, r0, r1, B'⟩ := take_m 15487289 191 104723 (by decide) (by decide) (by decide) B (by omega) h0 (by omega)
  obtain ⟨q, rfl⟩ : ∃ q : Nat, r = (q : Int) := ⟨r.toNat, by omega⟩
  exact ⟨q, G', e, r1, B'⟩
set_option maxHeartbeats 4000000 in
theorem figures_ok (B : Bx b N h) (hN : N ≤ 100000) : ∃ (w : Str) (h' : MH), fz m__law_figures [.ref b] h = .ok (.str w) h' ∧ Bu b (N + 60) h h' ∧ w.length ≤ 80 ∧ Cp w := by
  obtain ⟨i, h1, t1, i3, B1⟩ := draw' B (by omega) (m := 3) (by decide) (by decide)
  obtain ⟨k, ek, hk⟩ : ∃ k : Nat, (∀ H, bIxX (.vl [.int 3, .int 7, .int 34]) (.int (i : Int)) H = .ok (.int (k : Int)) H) ∧ 0 < k ∧ k ≤ 34 := by
    obtain ⟨x, ex, mx⟩ := atI_lt (xs := [W.int 3, .int 7, .int 34]) (k := (i : Int)) (by omega) (by simpa using i3)
    simp only [List.mem_cons, List.not_mem_nil, or_false] at mx
    rcases mx with rfl | rfl | rfl
    · exact ⟨3, fun H => ixX_vl ex, by omega⟩
    · exact ⟨7, fun H => ixX_vl ex, by omega⟩
    · exact ⟨34, fun H => ixX_vl ex, by omega⟩
  have z3 : 3 ≤ sizeLine := by rw [line_eq]; omega
  have f3 : ∀ H : MH, fin H (.ok (.ref H.length) (H ++ [.lst [.int 3, .int 7, .int 34]])) = .ok (.vl [.int 3, .int 7, .int 34]) H := fun H => fin_l0 (by simp)
  obtain ⟨m, h2, t2, mk, B2⟩ := draw' B1.bx (by omega) (m := k) (by omega) (by omega)
  have ad : ∀ (x y : Int) g, bAdd (.int x) (.int y) g = .ok (.int (x + y)) g := fun _ _ _ => rfl
  generalize hr_ : fz m__law_figures _ _ = r_
  apply fz_eq hr_
  clear hr_
  refine ends_seq ?_
  simp [-ev_for, -ev_lc, -ev_dc, -List.map_map, -exists_and_left, -exists_and_right, t1, z3, f3, ek, t2, ad, e_nx]
  refine then_i ?_
  refine ends_seq ?_
  simp [-ev_for, -ev_lc, -ev_dc, -List.map_map, -exists_and_left, -exists_and_right]
  generalize hr : fin _ (eLc _ _ _ _ _ _ _) = r
  obtain ⟨ys, h3, er, B3, cs, ecs, cl, cr⟩ := lcRD hr (n := m + 1) (N := N + 2) (b := b) 1 (fun i acc => ∃ cs : List Nat, acc = (cs.map chs).map W.str ∧ cs.length = i ∧ ∀ c ∈ cs, dig c = true) (by
    have := rng_nat (n := m + 1) (by omega) h2
    have e : (1 + (m : Int)) = ((m + 1 : Nat) : Int) := by omega
    simp [e]
    simpa using this) (by rw [line_eq]; omega) (B1.trans B2 |>.bx) ⟨[], rfl, rfl, fun _ z => nomatch z⟩ (fun i acc ⟨cs, e1, e2, _⟩ => by
    subst e1
    refine ⟨by simp [e2], fun y hy => ?_⟩
    obtain ⟨x, _, rfl⟩ := List.mem_map.mp hy
    exact .str _) (fun i acc g hi Bi ⟨cs, e1, e2, e3⟩ => by
    obtain ⟨d, g2, t3, d0, d1, Bd⟩ := tk.run [.lst acc] (m := 10) Bi.bx (by omega) (by omega) (by omega)
    obtain ⟨c, mc, ec⟩ := sign_at (S := "0123456789") d0 (by exact d1) (by rw [line_eq]; decide)
    refine ⟨_, rfl, .str (chs c), g2, ?_, (Bi.trans Bd).mono (by omega), cs ++ [c], by subst e1; simp, by simp [e2], fun x hx => ?_⟩
    · simp [wipeM, t3, ec]
    · rcases List.mem_append.mp hx with hx | hx
      · exact e3 x hx
      · rw [List.mem_singleton.mp hx, ← dig_mem]
        exact decide_eq_true mc)
  subst er ecs
  have jl : (Txt.join "" (cs.map chs)).length = m + 1 := by rw [len_join, cl]
  have jz : ((cs.map chs).map (·.length)).sum ≤ 16777216 := by rw [sum_chs]; omega
  have jc : Cp (Txt.join "" (cs.map chs)) := cp_join fun c hc => by
    have := cr c hc
    unfold dig at this
    have := of_decide_eq_true this
    omega
  generalize hst : Txt.join "" (cs.map chs) = st at jl jc
  simp [-ev_for, -ev_lc, -ev_dc, -List.map_map, -exists_and_left, -exists_and_right, join_vl jz, hst]
  rw [e_nx]
  refine then_i ?_
  have ls : ∀ G, bLen [.str st] G = .ok (.int st.length) G := fun G => len_s (by rw [line_eq]; omega)
  obtain ⟨a, h4, t4, a1, B4⟩ := draw' B3.bx (by omega) (m := (st.length : Int)) (by omega) (by omega)
  obtain ⟨wy, h5, t5, w6, B5⟩ := draw' B4.bx (by omega) (m := 6) (by decide) (by decide)
  have BB : ∀ {g : MH} {M : Nat}, Bu b M h5 g → M ≤ N + 60 → Bu b (N + 60) h g := fun {g M} C hM => ((((B1.trans B2).trans B3).trans B4).trans B5 |>.trans C).mono hM
  have B0 : Bu b (N + 50) h5 h5 := Bu.refl (B5.bx.mono (by omega))
  refine ends_seq ?_
  simp [-ev_for, -ev_lc, -ev_dc, -List.map_map, -exists_and_left, -exists_and_right, e_nx, e_rt, ls, t4, t5]
  refine then_i ?_
  have eqi : ∀ (x y : Int) (G : MH), bEq (.int x) (.int y) G = .ok (.bl (decide (x = y))) G := fun x y G => by
    show R.ok (W.bl (x == y)) G = _
    congr 2
  have c48 : Cp "0" ∧ Cp " " ∧ Cp "-" ∧ Cp "\n" ∧ Cp "" ∧ Cp "00" := by unfold Cp; decide +kernel
  by_cases w0 : wy = 0
  · subst w0
    obtain ⟨d, g2, t6, d1, Bd⟩ := draw' B5.bx (by omega) (m := 10) (by decide) (by decide)
    have e10 : (("+- a._~/:" : Str) ++ ("\n" : Str)).length = 10 := by decide +kernel
    obtain ⟨c, mc, ec⟩ := sign_at (S := ("+- a._~/:" : Str) ++ ("\n" : Str)) (k := (d : Int)) (by omega) (by rw [e10]; exact d1) (by rw [e10, line_eq]; omega)
    have cc : Cp (("+- a._~/:" : Str) ++ ("\n" : Str)) := by unfold Cp; decide +kernel
    have a10 : ∀ G, bAdd (.str "+- a._~/:") (.str "\n") G = .ok (.str (("+- a._~/:" : Str) ++ ("\n" : Str))) G := fun G => add_s (by decide +kernel) G
    have s1 : ∀ lo hi H, bSl (.str st) lo hi H = .ok (.str (cutS st lo hi)) H := fun lo hi H => sl_s (by rw [line_eq]; omega)
    have lA : ∀ lo hi, (cutS st lo hi).length ≤ 35 := fun lo hi => Nat.le_trans (cut_len st lo hi) (by omega)
    have l1 : (chs c).length = 1 := rfl
    have x1 : ∀ lo hi H, bAdd (.str (cutS st lo hi)) (.str (chs c)) H = .ok (.str (cutS st lo hi ++ chs c)) H := fun lo hi H => add_s (by have := lA lo hi; omega) H
    have x2 : ∀ lo hi lo2 hi2 H, bAdd (.str (cutS st lo hi ++ chs c)) (.str (cutS st lo2 hi2)) H = .ok (.str (cutS st lo hi ++ chs c ++ cutS st lo2 hi2)) H := fun lo hi lo2 hi2 H => add_s (by rw [app_len]; have := lA lo hi; have := lA lo2 hi2; omega) H
    have fb : ∀ y : Str, fin h5 (.ok (.str y) g2) = .ok (.str y) g2 := fun y => by
      have := fin_cls Bd.stp [] (w := .str y) (.str y)
      rwa [List.append_nil] at this
    have B9 := BB Bd (by omega)
    have ft : ∀ y : Str, fin h (.ok (.str y) g2) = .ok (.str y) g2 := fun y => by
      have := fin_cls B9.stp [] (w := .str y) (.str y)
      rwa [List.append_nil] at this
    refine ends_seq (ends_ifT (by simp [eqi]) (ends_ret ?_))
    simp [-ev_for, -ev_lc, -ev_dc, -List.map_map, -exists_and_left, -exists_and_right, s1, t6, ec, a10, x1, fb, x2, e_rt, fn_rt, ft]
    refine ⟨_, g2, ⟨rfl, rfl⟩, B9, ?_, cp_app (cp_app (jc.cut _ _) fun x hx => ?_) (jc.cut _ _)⟩
    · rw [app_len, app_len]
      have := lA none (some (a : Int))
      have := lA (some ((a : Int) + 1)) none
      omega
    · have : x = c := by simpa [chs] using hx
      rw [this]
      exact cc c mc
  have d0 : ¬ (wy : Int) = 0 := by omega
  refine ends_seq ?_
  simp [-ev_for, -ev_lc, -ev_dc, -List.map_map, -exists_and_left, -exists_and_right, e_nx, e_rt, eqi, d0, w0]
  refine then_i ?_
  by_cases w1 : wy = 1
  · subst w1
    obtain ⟨d, g2, t6, d1, Bd⟩ := draw' B5.bx (by omega) (m := 9) (by decide) (by decide)
    have B9 := BB Bd (by omega)
    have ft : ∀ y : Str, fin h (.ok (.str y) g2) = .ok (.str y) g2 := fun y => by
      have := fin_cls B9.stp [] (w := .str y) (.str y)
      rwa [List.append_nil] at this
    have z9 : 9 ≤ sizeLine := by rw [line_eq]; omega
    have p1 : ∀ (y : Str) H, y.length ≤ 10 → bAdd (.str y) (.str st) H = .ok (.str (y ++ st)) H := fun y H hy => add_s (by omega) H
    have p2 : ∀ (y : Str) H, y.length ≤ 10 → bAdd (.str st) (.str y) H = .ok (.str (st ++ y)) H := fun y H hy => add_s (by omega) H
    have q1 := fun H => p1 "0" H (by decide)
    have q2 := fun H => p2 " " H (by decide)
    have q3 := fun H => p1 " " H (by decide)
    have q4 := fun H => p1 "-" H (by decide)
    have q5 := fun H => p2 "\n" H (by decide)
    have q6 := fun H => p1 "\n" H (by decide)
    have f9 : ∀ H : MH, fin H (.ok (.ref H.length) (H ++ [.lst [.str "", .str "0", .str "00", .str ("0" ++ st), .str (st ++ " "), .str (" " ++ st), .str ("-" ++ st), .str (st ++ "\n"), .str ("\n" ++ st)]])) = .ok (.vl [.str "", .str "0", .str "00", .str ("0" ++ st), .str (st ++ " "), .str (" " ++ st), .str ("-" ++ st), .str (st ++ "\n"), .str ("\n" ++ st)]) H := fun H => fin_l0 (by simp)
    obtain ⟨x, ex, mx⟩ := atI_lt (xs := [W.str "", .str "0", .str "00", .str ("0" ++ st), .str (st ++ " "), .str (" " ++ st), .str ("-" ++ st), .str (st ++ "\n"), .str ("\n" ++ st)]) (k := (d : Int)) (by omega) (by simpa using d1)
    have ix : ∀ H, bIxX (.vl [.str "", .str "0", .str "00", .str ("0" ++ st), .str (st ++ " "), .str (" " ++ st), .str ("-" ++ st), .str (st ++ "\n"), .str ("\n" ++ st)]) (.int (d : Int)) H = .ok x H := fun H => ixX_vl ex
    have gx : ∃ y : Str, x = .str y ∧ Cp y ∧ y.length ≤ 80 := by
      have l1 : ("0" : Str).length = 1 ∧ (" " : Str).length = 1 ∧ ("-" : Str).length = 1 ∧ ("\n" : Str).length = 1 := by decide
      simp only [List.mem_cons, List.not_mem_nil, or_false] at mx
      rcases mx with rfl | rfl | rfl | rfl | rfl | rfl | rfl | rfl | rfl
      · exact ⟨_, rfl, c48.2.2.2.2.1, by decide⟩
      · exact ⟨_, rfl, c48.1, by decide⟩
      · exact ⟨_, rfl, c48.2.2.2.2.2, by decide⟩
      · exact ⟨_, rfl, cp_app c48.1 jc, by rw [app_len]; omega⟩
      · exact ⟨_, rfl, cp_app jc c48.2.1, by rw [app_len]; omega⟩
      · exact ⟨_, rfl, cp_app c48.2.1 jc, by rw [app_len]; omega⟩
      · exact ⟨_, rfl, cp_app c48.2.2.1 jc, by rw [app_len]; omega⟩
      · exact ⟨_, rfl, cp_app jc c48.2.2.2.1, by rw [app_len]; omega⟩
      · exact ⟨_, rfl, cp_app c48.2.2.2.1 jc, by rw [app_len]; omega⟩
    obtain ⟨y, rfl, cy, ly⟩ := gx
    refine ends_seq (ends_ifT (by simp [eqi]) (ends_seq ?_))
    simp [-ev_for, -ev_lc, -ev_dc, -List.map_map, -exists_and_left, -exists_and_right, q1, q2, q3, q4, q5, q6, z9, f9, e_nx]
    refine then_i ?_
    refine ends_ret ?_
    simp [-ev_for, -ev_lc, -ev_dc, -List.map_map, -exists_and_left, -exists_and_right, t6, ix, e_rt, fn_rt, ft]
    exact ⟨y, g2, ⟨rfl, rfl⟩, B9, ly, cy⟩
  have d1 : ¬ (wy : Int) = 1 := by omega
  refine ends_seq ?_
  simp [-ev_for, -ev_lc, -ev_dc, -List.map_map, -exists_and_left, -exists_and_right, e_nx, e_rt, eqi, d1]
  refine then_i ?_
  have B9 := BB B0 (by omega)
  have ft : ∀ y : Str, fin h (.ok (.str y) h5) = .ok (.str y) h5 := fun y => by
    have := fin_cls B9.stp [] (w := .str y) (.str y)
    rwa [List.append_nil] at this
  refine ends_ret ?_
  simp [-ev_for, -ev_lc, -ev_dc, -List.map_map, -exists_and_left, -exists_and_right, e_rt, fn_rt, ft]
  exact ⟨st, h5, ⟨rfl, rfl⟩, B9, by omega, jc⟩
end
end K03
/-! K03_e: integers right. -/
noncomputable section
namespace K03
open PySem PySem.NumText L2 PM Bag Wb
theorem nmW_lt {w : Str} {n : Nat} (e : nmW w = some n) : n < 10 ^ 30 := by
  unfold nmW at e
  split at e
  · cases e
  · rename_i c
    split at e
    · cases e
    · cases e
      have c1 : ¬ 30 < w.length := fun z => c (.inr (.inl z))
      have c2 : w.cps.toList.all dig = true := Classical.byContradiction fun z => c (.inr (.inr z))
      exact digits_lt (fun x hx => List.all_eq_true.mp c2 x hx) (by rw [← len_cps]; omega)
theorem shI {n : Nat} (h : n < 10 ^ 30) (G : MH) : ShE 200 0 G (.int (n : Int)) := by
  have l := TL.numL_len (n := n) (k := 30) (by decide) h
  have lg : n.log2 < 100 := by
    by_cases z : n = 0
    · rw [z]; decide
    · exact (Nat.log2_lt z).mpr (Nat.lt_of_lt_of_le h (by decide))
  refine ⟨.int n, ⟨?_, ?_, ?_, ?_⟩, fun k _ => by cases k <;> rfl⟩
  · unfold PyData.leavesShort
    refine decide_eq_true ?_
    show (Str.ofString (toString (n : Int))).length ≤ 30
    rw [TL.len_tl, TL.tl_num]
    exact l
  · unfold PyData.showable
    refine decide_eq_true ?_
    show n.log2 < 1920
    omega
  · unfold PyData.weight
    split
    · omega
    · show n.log2 + 1 ≤ 200
      omega
  · unfold PyData.depth
    exact Nat.le_refl _
theorem wi_lt {o : Option Nat} {lo hi : Int} {n : Nat} (h : ∀ n, o = some n → n < 10 ^ 30) (e : wiN o lo hi = some n) : n < 10 ^ 30 := by
  unfold wiN at e
  obtain ⟨m, e1, e2⟩ := Option.bind_eq_some_iff.mp e
  split at e2
  · cases e2; exact h _ e1
  · cases e2
theorem shO {o : Option Nat} (h : ∀ n, o = some n → n < 10 ^ 30) (G : MH) : ∃ s, bReprE [oI o] G = .ok (.str s) G := by
  cases o with
  | none => exact (ShE.non (G := G)).repr (by omega) (by omega)
  | some n => exact (shI (h n rfl) G).repr (by omega) (by omega)
theorem ne_s (x y : Str) (g : MH) : bNe (.str x) (.str y) g = .ok (.bl (!(x == y))) g := rfl
theorem numL_head : ∀ n : Nat, 1 ≤ n → (TL.numL n).headD 0 ≠ 48 := fun n => by
  induction n using Nat.strongRecOn with
  | _ n ih =>
    intro h1
    by_cases h : n < 10
    · rw [TL.numL_lt h]
      show 48 + n ≠ 48
      omega
    · rw [TL.numL_step (by omega)]
      have := ih (n / 10) (by omega) (by omega)
      cases e : TL.numL (n / 10) with
      | nil => exact absurd e (TL.numL_ne _)
      | cons c l =>
        rw [e] at this
        exact this
theorem numL_lead (n : Nat) (h1 : (TL.numL n).headD 0 = 48) (h2 : 1 < (TL.numL n).length) : False := by
  by_cases h : 1 ≤ n
  · exact numL_head n h h1
  · have : n = 0 := by omega
    subst this
    rw [TL.numL_lt (by decide)] at h2
    simp at h2
theorem ends_set {e : EM} {σ : MS} {h g : MH} {j : Nat} {w : W} {F : En} (q : e σ h = .ok w g) (k : F.nx (σ.set j (some w)) g) : (sSet j e σ h).ends F := by
  show ((e σ h).st σ fun w h1 => RS.nx (σ.set j (some w)) h1).ends F
  rw [q]
  exact e_nx.mpr k
section
variable {b N : Nat} {h G : MH} {w : Str}
/-- the number of what str writes -/
theorem nm_str {n : Nat} (h : n < 10 ^ 30) : nmW (Str.ofString (toString (n : Int))) = some n ∧ Cp (Str.ofString (toString (n : Int))) ∧ (Str.ofString (toString (n : Int))).length ≤ 30 := by
  have e : (Str.ofString (toString (n : Int))).cps.toList = TL.numL n := TL.tl_num n
  have l := TL.numL_len (n := n) (k := 30) (by decide) h
  have dg : ∀ c ∈ TL.numL n, 48 ≤ c ∧ c ≤ 57 := TL.numL_digits n
  have ln : (Str.ofString (toString (n : Int))).length = (TL.numL n).length := by rw [len_cps, e]
  have ne := TL.numL_ne n
  have pos : 0 < (TL.numL n).length := List.length_pos_iff.mpr ne
  refine ⟨?_, fun c hc => ?_, by omega⟩
  · unfold nmW
    rw [if_neg, if_neg, e, TL.numL_val]
    · rintro ⟨h1, h2⟩
      rw [e] at h1
      rw [ln] at h2
      exact numL_lead n h1 h2
    · rintro (z | z | z)
      · omega
      · omega
      · refine z ?_
        rw [e, List.all_eq_true]
        intro c hc
        unfold dig
        exact decide_eq_true (dg c hc)
  · rw [e] at hc
    have := dg c hc
    omega
abbrev ifS (e1 e2' : EM) : SM := (sIf (tTru (e2 bNe (eCall bReprE (aCons e1 aNil)) (eCall bReprE (aCons e2' aNil)))) (sRet (eC (.bl false))) sNext)
theorem if_ok {e1 e2' : EM} {σ : MS} {o : Option Nat} (ho : ∀ n, o = some n → n < 10 ^ 30) (a : e1 σ G = .ok (oI o) G) (c : e2' σ G = .ok (oI o) G) {F : En} (hF : F.nx σ G) : (ifS e1 e2' σ G).ends F := by
  obtain ⟨s, es⟩ := shO ho G
  have ns := ne_s s s G
  rw [beq_self_eq_true] at ns
  have e : (tTru (e2 bNe (eCall bReprE (aCons e1 aNil)) (eCall bReprE (aCons e2' aNil)))) σ G = .ok false G := by
    simp only [tTru, eCall, e2, ev_cons, ev_nil, a, c, R.bind_ok, es, ns]
    rfl
  unfold ifS
  rw [ev_sif, e]
  exact e_nx.mpr hF
theorem near_ok (o : Option Nat) (σ : MS) (s3 : σ[3]? = some (some (oI o))) : ∃ n : Int, ∀ G : MH, eIf (tTru (e2 bNot (eVar 3) (eC .non))) (eCall bMin2 (aCons (eVar 3) (aCons (e2 bSub (e2 bPow (eC (.int 10)) (eC (.int 30))) (eC (.int 9))) aNil))) (eC (.int 12)) σ G = .ok (.int n) G := by
  cases o with
  | none =>
    have nn : ∀ G, bNot .non .non G = .ok (.bl false) G := fun _ => rfl
    exact ⟨12, fun G => by simp [-ev_for, -ev_lc, -ev_dc, s3, oI, nn]⟩
  | some n =>
    have nn : ∀ G, bNot (.int (n : Int)) .non G = .ok (.bl true) G := fun _ => rfl
    have p : ∀ G, bPow (.int 10) (.int 30) G = .ok (.int (10 ^ 30)) G := fun _ => rfl
    have sb : ∀ x y G, bSub (.int x) (.int y) G = .ok (.int (x - y)) G := fun _ _ _ => rfl
    exact ⟨_, fun G => by
      simp [-ev_for, -ev_lc, -ev_dc, s3, oI, nn, p, sb]
      rfl⟩
set_option maxHeartbeats 4000000 in
theorem turn_ok (B : Bx b N G) (hN : N ≤ 50000) (x1 x2 x3 x4 x5 x6 x7 x8 : Option W) {body : SM} {F : En}
    (hb : body = (sSeq (sSet 2 (eCall (fz m__law_figures) (aCons (eVar 0) aNil)))
    (sSeq (sSet 3 (eCall (fz m__law_number) (aCons (eVar 2) aNil)))
    (sSeq (sSet 4 (eIf (tTru (e2 bNot (eVar 3) (eC .non))) (eCall bMin2 (aCons (eVar 3) (aCons (e2 bSub (e2 bPow (eC (.int 10)) (eC (.int 30))) (eC (.int 9))) aNil))) (eC (.int 12))))
    (sSeq (sPar 5 6 (aCons (e2 bSub (e2 bAdd (eVar 4) (eCall (fz m__law_take) (aCons (eVar 0) (aCons (eC (.int 3)) aNil)))) (eC (.int 1))) (aCons (e2 bSub (e2 bAdd (eVar 4) (eCall (fz m__law_take) (aCons (eVar 0) (aCons (eC (.int 4)) aNil)))) (eC (.int 1))) aNil)))
    (sSeq (ifS (eCal 1 0 (fun ws zs => (fz m_parse_integer) (gPerm [0, 1, 2] (ws ++ zs) [.int 0, .int 999999])) (aCons (eVar 2) aNil) aNil) (eCall (fz m__law_within) (aCons (eVar 3) (aCons (eC (.int 0)) (aCons (eC (.int 999999)) aNil)))))
    (sSeq (ifS (eCallK 1 2 (fun ws zs => (fz m_parse_integer) (gPerm [0, 1, 2] ws zs)) (aCons (eVar 2) aNil) (aCons (eVar 5) (aCons (eVar 6) aNil))) (eCall (fz m__law_within) (aCons (eVar 3) (aCons (eVar 5) (aCons (eVar 6) aNil)))))
    (sSeq (ifS (eCal 0 2 (fun ws zs => (fz m_parse_integer) (gPerm [1, 2, 0] (ws ++ zs) [.int 0])) aNil (aCons (eVar 6) (aCons (eVar 2) aNil))) (eCall (fz m__law_within) (aCons (eVar 3) (aCons (eC (.int 0)) (aCons (eVar 6) aNil)))))
    (ifS (eCal 1 1 (fun ws zs => (fz m_parse_integer) (gPerm [0, 1, 2] (ws ++ zs) [.int 999999])) (aCons (eVar 2) aNil) (aCons (eVar 5) aNil)) (eCall (fz m__law_within) (aCons (eVar 3) (aCons (eVar 5) (aCons (eC (.int 999999)) aNil)))))))))))))
    (hE : ∀ x2 x3 x4 x5 x6 G', Bu b (N + 70) G G' → F.nx [some (.ref b), x1, x2, x3, x4, x5, x6, x7, x8] G') :
    (body [some (.ref b), x1, x2, x3, x4, x5, x6, x7, x8] G).ends F := by
  subst hb
  obtain ⟨w, G1, t1, B1, lw, cw⟩ := figures_ok B (by omega)
  have hl : w.length ≤ sizeLine := by rw [line_eq]; omega
  have nk := fun H => number_ok (h := H) cw hl
  have lt : ∀ n, nmW w = some n → n < 10 ^ 30 := fun n => nmW_lt
  refine ends_seq ?_
  simp [-ev_for, -ev_lc, -ev_dc, -List.map_map, -exists_and_left, -exists_and_right, e_nx, e_rt, t1]
  refine then_i ?_
  refine ends_seq ?_
  simp [-ev_for, -ev_lc, -ev_dc, -List.map_map, -exists_and_left, -exists_and_right, e_nx, e_rt, nk]
  refine then_i ?_
  obtain ⟨near, hnear⟩ := near_ok (nmW w) [some (.ref b), x1, some (.str w), some (oI (nmW w)), x4, x5, x6, x7, x8] rfl
  refine ends_seq (ends_set (hnear _) (then_i ?_))
  simp only [List.set_cons_zero, List.set_cons_succ]
  obtain ⟨r, G2, t2, _, B2⟩ := draw' B1.bx (by omega) (m := 3) (by decide) (by decide)
  obtain ⟨q, G3, t3, _, B3⟩ := draw' B2.bx (by omega) (m := 4) (by decide) (by decide)
  have sb : ∀ x y G, bSub (.int x) (.int y) G = .ok (.int (x - y)) G := fun _ _ _ => rfl
  have ad : ∀ x y G, bAdd (.int x) (.int y) G = .ok (.int (x + y)) G := fun _ _ _ => rfl
  refine ends_seq ?_
  simp [-ev_for, -ev_lc, -ev_dc, -List.map_map, -exists_and_left, -exists_and_right, t2, t3, ad, sb, e_nx]
  refine then_i ?_
  generalize near + (r : Int) - 1 = lo
  generalize near + (q : Int) - 1 = hi
  have po := fun (lo hi : Int) => parse_ok (h := G3) cw hl lo hi
  have wo := fun (lo hi : Int) => within_ok (nmW w) lo hi G3
  have B9 : Bu b (N + 70) G G3 := ((B1.trans B2).trans B3).mono (by omega)
  refine ends_seq (if_ok (o := wiN (nmW w) 0 999999) (fun n => wi_lt lt) ?_ ?_ (then_i ?_))
  · simp [-ev_for, -ev_lc, -ev_dc, gPerm, po]
  · simp [-ev_for, -ev_lc, -ev_dc, wo]
  refine ends_seq (if_ok (o := wiN (nmW w) lo hi) (fun n => wi_lt lt) ?_ ?_ (then_i ?_))
  · simp [-ev_for, -ev_lc, -ev_dc, gPerm, po]
  · simp [-ev_for, -ev_lc, -ev_dc, wo]
  refine ends_seq (if_ok (o := wiN (nmW w) 0 hi) (fun n => wi_lt lt) ?_ ?_ (then_i ?_))
  · simp [-ev_for, -ev_lc, -ev_dc, gPerm, po]
  · simp [-ev_for, -ev_lc, -ev_dc, wo]
  refine if_ok (o := wiN (nmW w) lo 999999) (fun n => wi_lt lt) ?_ ?_ (hE _ _ _ _ _ _ B9)
  · simp [-ev_for, -ev_lc, -ev_dc, gPerm, po]
  · simp [-ev_for, -ev_lc, -ev_dc, wo]
end
end K03
/-! K03_f: integers right. -/
noncomputable section
namespace K03
open PySem PySem.NumText L2 PM Bag Wb
theorem fz_e {m : EM} {σ : MS} {h : MH} {r s : R W} (a : m σ h = r) (c : fin h r = s) : eFz m σ h = s := by
  show fin h (m σ h) = s
  rw [a, c]
/-- signs repeated -/
def repS (c k : Nat) : Str := ⟨(List.replicate k [c]).flatten.toArray⟩
theorem repS_cps (c k : Nat) : (repS c k).cps.toList = List.replicate k c := by
  unfold repS
  simp
theorem repS_len (c k : Nat) : (repS c k).length = k := by rw [len_cps, repS_cps, List.length_replicate]
theorem repS_cp {c : Nat} (h : c < 200) (k : Nat) : Cp (repS c k) := fun x hx => by
  rw [repS_cps] at hx
  rw [List.eq_of_mem_replicate hx]
  omega
theorem mul_s (c : Nat) (k : Nat) (hk : k ≤ 100000) (G : MH) : bMul (.str (chs c)) (.int (k : Int)) G = .ok (.str (repS c k)) G := by
  have e : (chs c).cps.toList = [c] := rfl
  have l : (chs c).length = 1 := rfl
  show (@ite _ _ (Classical.propDecidable _) _ _) = _
  rw [if_pos ⟨by omega, by omega, by rw [l, line_eq]; omega⟩, e]
  rfl
section
variable {b N : Nat} {h G : MH} {w : Str}
def Bad (x : W) : Prop := ∀ G, fz m_parse_integer [x, .int 0, .int (10 ^ 30 - 1)] G = .ok .non G
theorem bad_long {w : Str} (cw : Cp w) (l : 30 < w.length) (h9 : w.length ≤ 100000) : Bad (.str w) := fun G => by
  have nn : nmW w = none := if_pos (.inr (.inl l))
  rw [parse_ok cw (by rw [line_eq]; omega), nn]
  rfl
theorem loop2_ok (B : Bx b N G) (hN : N ≤ 100000) (x1 x2 x3 x4 x5 x6 x7 x8 : Option W) {s2 : SM} {F : En}
    (hs : s2 = (sFor (iVal (eFz (eLst (aCons (eC (.int 999)) (aCons (eC (.int 1000)) (aCons (eC (.int 9999)) (aCons (eC (.int 10000)) (aCons (eC (.int 99999)) (aCons (eC (.int 100000)) (aCons (eC (.int 999999)) (aCons (eC (.int 1000000)) (aCons (eCall (fz m__law_take) (aCons (eVar 0) (aCons (eC (.int 1000000)) aNil))) aNil)))))))))))) (gN 3) (ifS (eCal 1 0 (fun ws zs => (fz m_parse_integer) (gPerm [0, 1, 2] (ws ++ zs) [.int 0, .int 999999])) (aCons (eCall bStr (aCons (eVar 3) aNil)) aNil) aNil) (eCall (fz m__law_within) (aCons (eVar 3) (aCons (eC (.int 0)) (aCons (eC (.int 999999)) aNil)))))))
    (hE : ∀ x3 G', Bu b (N + 1) G G' → F.nx [some (.ref b), x1, x2, x3, x4, x5, x6, x7, x8] G') :
    (s2 [some (.ref b), x1, x2, x3, x4, x5, x6, x7, x8] G).ends F := by
  subst hs
  obtain ⟨r, G1, t1, r9, B1⟩ := draw' B (by omega) (m := 1000000) (by decide) (by decide)
  have z9 : 9 ≤ sizeLine := by rw [line_eq]; omega
  obtain ⟨L, hL⟩ : ∃ L : List Nat, L = [999, 1000, 9999, 10000, 99999, 100000, 999999, 1000000, r] := ⟨_, rfl⟩
  have lv : ([W.int 999, .int 1000, .int 9999, .int 10000, .int 99999, .int 100000, .int 999999, .int 1000000, .int (r : Int)] : List W) = L.map fun n : Nat => W.int (n : Int) := by rw [hL]; rfl
  have fL : fin G (.ok (.ref G1.length) (G1 ++ [.lst [.int 999, .int 1000, .int 9999, .int 10000, .int 99999, .int 100000, .int 999999, .int 1000000, .int (r : Int)]])) = .ok (.vl (L.map fun n : Nat => W.int (n : Int))) G1 := by
    have := Bu.fin_l B1 [] (xs := L.map fun n : Nat => W.int (n : Int)) (k := 0) rfl (fun x hx => by
      obtain ⟨n, _, rfl⟩ := List.mem_map.mp hx
      exact .int _)
    rw [lv]
    simpa using this
  rw [ev_for]
  simp [-ev_for, -ev_lc, -ev_dc, -List.map_map, -exists_and_left, -exists_and_right, t1, z9, fL]
  refine ends_for L (fun n : Nat => .int (n : Int)) (fun i σ g => ∃ x3, σ = [some (.ref b), x1, x2, x3, x4, x5, x6, x7, x8] ∧ g = G1) (by simp [itT]) (fun i σ g _ => by simp [itT]) ⟨_, rfl, rfl⟩ (fun i n σ g hn ⟨x3, e1, e2⟩ => ?_) (fun σ g ⟨x3, e1, e2⟩ => ?_)
  · subst e1 e2
    refine ⟨_, rfl, ?_⟩
    simp only [List.set_cons_zero, List.set_cons_succ]
    have n30 : n < 10 ^ 30 := by
      have m := List.mem_of_getElem? hn
      rw [hL] at m
      simp only [List.mem_cons, List.not_mem_nil, or_false] at m
      have : n ≤ 1000000 := by omega
      exact Nat.lt_of_le_of_lt this (by decide)
    obtain ⟨ns, cs, ls⟩ := nm_str n30
    have st : bStr [.int (n : Int)] g = .ok (.str (Str.ofString (toString (n : Int)))) g := by
      show (if (n : Int).natAbs.log2 < 1920 then R.ok (W.str (toString (n : Int))) g else R.stuck) = _
      have lg : n.log2 < 100 := by
        by_cases z : n = 0
        · rw [z]; decide
        · exact (Nat.log2_lt z).mpr (Nat.lt_of_lt_of_le n30 (by decide))
      rw [Int.natAbs_natCast, if_pos (by omega)]
    have po := parse_ok (h := g) cs (by rw [line_eq]; omega) 0 999999
    rw [ns] at po
    have wo := within_ok (some n) 0 999999 g
    refine if_ok (o := wiN (some n) 0 999999) (fun m => wi_lt fun k hk => by cases hk; exact n30) ?_ ?_ ⟨_, rfl, rfl⟩
    · have a1 : (aCons (eCall bStr (aCons (eVar 3) aNil)) aNil) [some (.ref b), x1, x2, some (.int (n : Int)), x4, x5, x6, x7, x8] g = .ok [.str (Str.ofString (toString (n : Int)))] g := by
        have v3 : eVar 3 [some (.ref b), x1, x2, some (.int (n : Int)), x4, x5, x6, x7, x8] g = .ok (.int (n : Int)) g := by simp
        simp only [eCall, ev_cons, ev_nil, v3, R.bind_ok, st]
      show (((aCons (eCall bStr (aCons (eVar 3) aNil)) aNil) _ _).bind _) = _
      rw [a1]
      exact po
    · have wo' : fz m__law_within [.int (n : Int), .int 0, .int 999999] g = _ := wo
      simp [-ev_for, -ev_lc, -ev_dc, wo']
  · subst e1 e2
    exact hE _ _ B1
/-- the things that are no integers' texts -/
def T7 : List W := [.non, .bl true, .int 7, .vl [.str "7"], .tup [.str "7"], .vd [(.inr "7", .int 7)], .str (repS 57 3000), .str (repS 48 31), .str ("1" ++ repS 48 30)]
theorem bad_T7 : ∀ x ∈ T7, Bad x := fun x hx => by
  simp only [T7, List.mem_cons, List.not_mem_nil, or_false] at hx
  rcases hx with rfl | rfl | rfl | rfl | rfl | rfl | rfl | rfl | rfl
  · exact fun G => parse_no rfl _ _
  · exact fun G => parse_no rfl _ _
  · exact fun G => parse_no rfl _ _
  · exact fun G => parse_no rfl _ _
  · exact fun G => parse_no rfl _ _
  · exact fun G => parse_no rfl _ _
  · exact bad_long (repS_cp (by decide) _) (by rw [repS_len]; decide) (by rw [repS_len]; decide)
  · exact bad_long (repS_cp (by decide) _) (by rw [repS_len]; decide) (by rw [repS_len]; decide)
  · exact bad_long (cp_app (by unfold Cp; decide +kernel) (repS_cp (by decide) _)) (by rw [app_len, repS_len]; show 30 < 1 + 30; decide) (by rw [app_len, repS_len]; show 1 + 30 ≤ 100000; decide)
theorem cls_T7 : ∀ x ∈ T7, ∀ n, Cls n x := fun x hx n => by
  simp only [T7, List.mem_cons, List.not_mem_nil, or_false] at hx
  rcases hx with rfl | rfl | rfl | rfl | rfl | rfl | rfl | rfl | rfl <;> simp
theorem nine_eq : ("9" : Str) = chs 57 := by decide
theorem set7_ok (σ : MS) (G : MH) : eFz (eLst (aCons (eC .non) (aCons (eC (.bl true)) (aCons (eC (.int 7)) (aCons (eFz (eLst (aCons (eC (.str "7")) aNil))) (aCons (eTup (aCons (eC (.str "7")) aNil)) (aCons (eFz (eDict [((eC (.str "7")), (eC (.int 7)))])) (aCons (e2 bMul (eC (.str "9")) (eC (.int 3000))) (aCons (e2 bMul (eC (.str "0")) (eC (.int 31))) (aCons (e2 bAdd (eC (.str "1")) (e2 bMul (eC (.str "0")) (eC (.int 30)))) aNil)))))))))) σ G = .ok (.vl T7) G := by
  have z1 : 1 ≤ sizeLine := by rw [line_eq]; omega
  have z9 : 9 ≤ sizeLine := by rw [line_eq]; omega
  have m1 : ∀ H, bMul (.str "9") (.int 3000) H = .ok (.str (repS 57 3000)) H := fun H => by rw [nine_eq]; exact mul_s 57 3000 (by omega) H
  have m2 : ∀ H, bMul (.str "0") (.int 31) H = .ok (.str (repS 48 31)) H := fun H => by rw [zero_eq]; exact mul_s 48 31 (by omega) H
  have m3 : ∀ H, bMul (.str "0") (.int 30) H = .ok (.str (repS 48 30)) H := fun H => by rw [zero_eq]; exact mul_s 48 30 (by omega) H
  have a1 : ∀ H, bAdd (.str "1") (.str (repS 48 30)) H = .ok (.str ("1" ++ repS 48 30)) H := fun H => add_s (by rw [repS_len]; show 1 + 30 ≤ 100000; decide) H
  have f1 : ∀ H : MH, fin H (.ok (.ref H.length) (H ++ [.lst [.str "7"]])) = .ok (.vl [.str "7"]) H := fun H => fin_l0 (by simp)
  have f2 : ∀ H : MH, fin H (eDict [((eC (.str "7")), (eC (.int 7)))] σ H) = .ok (.vd [(.inr "7", .int 7)]) H := fun H => by
    have e : eDict [((eC (.str "7")), (eC (.int 7)))] σ H = .ok (.ref H.length) (H ++ [.dct [(.inr "7", .int 7)]]) := by
      simp [eDict, prs, keysOf, PM.keyOf, mergeM, putM]
    rw [e]
    exact fin_d0 (by simp)
  have f3 : fin G (.ok (.ref G.length) (G ++ [.lst [.non, .bl true, .int 7, .vl [.str "7"], .tup [.str "7"], .vd [(.inr "7", .int 7)], .str (repS 57 3000), .str (repS 48 31), .str ("1" ++ repS 48 30)]])) = .ok (.vl T7) G := fin_l0 (fun x hx => cls_T7 x hx _)
  have f2' : ∀ H : MH, eFz (eDict [((eC (.str "7")), (eC (.int 7)))]) σ H = .ok (.vd [(.inr "7", .int 7)]) H := f2
  refine fz_e ?_ f3
  simp [-ev_for, -ev_lc, -ev_dc, z1, z9, m1, m2, m3, a1, f1, f2]
theorem eq_nil (G : MH) : bEq (.vl []) (.vl []) G = .ok (.bl true) G := eq_list (α := Str) (h := G) [] [] (fun _ z => nomatch z) (fun _ z => nomatch z)
abbrev lc8 : EM := eLc (iVal (eVar 7)) [8] (gN 8) (tTru (e2 bNot (eCal 1 1 (fun ws zs => (fz m_parse_integer) (gPerm [0, 2, 1] (ws ++ zs) [.int 0])) (aCons (eVar 8) aNil) (aCons (e2 bSub (e2 bPow (eC (.int 10)) (eC (.int 30))) (eC (.int 1))) aNil)) (eC .non))) (eVar 8)
theorem ret_ok (x0 x1 x2 x3 x4 x5 x6 x8 : Option W) (G : MH) : e2 bEq (eFz lc8) (eFz (eLst aNil)) [x0, x1, x2, x3, x4, x5, x6, some (.vl T7), x8] G = .ok (.bl true) G := by
  have f0 : ∀ G : MH, fin G (.ok (.ref G.length) (G ++ [Ob.lst []])) = .ok (.vl []) G := fun G => fin_l0 fun _ z => nomatch z
  have z0 : (0 : Nat) ≤ sizeLine := Nat.zero_le _
  have a : eFz lc8 [x0, x1, x2, x3, x4, x5, x6, some (.vl T7), x8] G = .ok (.vl []) G := by
    show fin G (eLc _ _ _ _ _ _ _) = _
    generalize hr : fin _ (eLc _ _ _ _ _ _ _) = r
    have p : ∀ G, bPow (.int 10) (.int 30) G = .ok (.int (10 ^ 30)) G := fun _ => rfl
    have sb : ∀ x y G, bSub (.int x) (.int y) G = .ok (.int (x - y)) G := fun _ _ _ => rfl
    have nn : ∀ G, bNot .non .non G = .ok (.bl false) G := fun _ => rfl
    have := lcF hr T7 (fun x => x) (fun _ => false) (fun x => x) (mi := itT T7) (by simp) rfl (fun i g => by simp [itT]) (by rw [line_eq]; decide) (fun x hx acc => ⟨_, rfl, by
      have bx : ∀ H, fz m_parse_integer [x, .int 0, .int (10 ^ 30 - 1)] H = .ok .non H := bad_T7 x hx
      have e1 : (aCons (e2 bSub (e2 bPow (eC (.int 10)) (eC (.int 30))) (eC (.int 1))) aNil) [x0, x1, x2, x3, x4, x5, x6, some (.vl T7), some x] (G ++ [.lst acc]) = .ok [.int (10 ^ 30 - 1)] (G ++ [.lst acc]) := by
        simp only [ev_cons, ev_nil, e2, eC, p, sb, R.bind_ok]
      have e2' : eCal 1 1 (fun ws zs => (fz m_parse_integer) (gPerm [0, 2, 1] (ws ++ zs) [.int 0])) (aCons (eVar 8) aNil) (aCons (e2 bSub (e2 bPow (eC (.int 10)) (eC (.int 30))) (eC (.int 1))) aNil) [x0, x1, x2, x3, x4, x5, x6, some (.vl T7), some x] (G ++ [.lst acc]) = .ok .non (G ++ [.lst acc]) := by
        show (((aCons (eVar 8) aNil) _ _).bind fun ws h1 => ((aCons _ aNil) _ h1).bind _) = _
        have v8 : (aCons (eVar 8) aNil) [x0, x1, x2, x3, x4, x5, x6, some (.vl T7), some x] (G ++ [.lst acc]) = .ok [x] (G ++ [.lst acc]) := by simp
        rw [v8]
        simp only [R.bind_ok]
        rw [e1]
        exact bx _
      show (tTru (e2 bNot _ _)) [x0, x1, x2, x3, x4, x5, x6, some (.vl T7), some x] _ = _
      simp only [tTru, e2, e2', eC, R.bind_ok, nn]
      rfl, fun z => nomatch z⟩) (fun _ _ z => nomatch z)
    rw [this]
    simp
  have c : eFz (eLst aNil) [x0, x1, x2, x3, x4, x5, x6, some (.vl T7), x8] G = .ok (.vl []) G := by
    simp [-ev_lc, z0, f0]
  simp only [e2, a, c, R.bind_ok, eq_nil]
theorem integers_ok (B : Bx b N h) (hN : N ≤ 10000) : ∃ h', fz m__law_integers_right [.ref b] h = .ok (.bl true) h' ∧ Bu b (N + 600) h h' := by
  generalize hr_ : fz m__law_integers_right _ _ = r_
  apply fz_eq hr_
  clear hr_
  refine ends_seq ?_
  rw [ev_for]
  have it : ∀ σ, iRange rng1 (aCons (eC (.int 6)) aNil) σ h = .ok (itR 0 6) h := fun σ => rng_nat (n := 6) (by omega) h
  rw [it]
  simp only [R.st_ok]
  refine ends_rng (n := 6) (fun i σ g => ∃ x1 x2 x3 x4 x5 x6, σ = [some (.ref b), x1, x2, x3, x4, x5, x6, none, none] ∧ Bu b (N + 70 * i) h g) ⟨_, _, _, _, _, _, rfl, Bu.refl (by simpa using B)⟩ (fun i σ g hi ⟨x1, x2, x3, x4, x5, x6, e1, Bi⟩ => ?_) (fun σ g ⟨x1, x2, x3, x4, x5, x6, e1, Bi⟩ => ?_)
  · subst e1
    refine ⟨_, rfl, ?_⟩
    simp only [List.set_cons_zero, List.set_cons_succ]
    exact turn_ok Bi.bx (by omega) _ _ _ _ _ _ _ _ rfl fun z2 z3 z4 z5 z6 G' B' => ⟨_, _, _, _, _, _, rfl, (Bi.trans B').mono (by omega)⟩
  · subst e1
    refine then_i ?_
    refine ends_seq (loop2_ok Bi.bx (by omega) _ _ _ _ _ _ _ _ rfl fun x3 G' B' => then_i ?_)
    refine ends_seq (ends_set (set7_ok _ _) (then_i ?_))
    simp only [List.set_cons_zero, List.set_cons_succ]
    have rr := ret_ok (some (.ref b)) x1 x2 x3 x4 x5 x6 none G'
    have B9 : Bu b (N + 600) h G' := (Bi.trans B').mono (by omega)
    have ft : fin h (.ok (.bl true) G') = .ok (.bl true) G' := by
      have := fin_cls B9.stp [] (w := .bl true) (.bl _)
      rwa [List.append_nil] at this
    show ((e2 bEq _ _ _ _).st _ _).ends _
    rw [rr]
    simp only [R.st_ok]
    rw [e_rt, fn_rt]
    exact ⟨G', ft, B9⟩
end
end K03
/-! K03_g: words of a text, the plain law. -/
noncomputable section
namespace K03
open PySem PySem.NumText L2 PM Bag Wb
def bad (s : Str) : Bool := decide (s = "") || decide (10 ∈ s.cps.toList)
/-- a text that has no list of words -/
def badT (x : Str) : Bool := (Txt.split x " ").any bad
def dueW (x : Str) : W := if badT x = true then .non else .vl ((Txt.split x " ").map W.str)
theorem tl_cps (x : Str) : TL.tl x = x.cps.toList := rfl
theorem sp_tl : TL.tl (" " : Str) = [32] := by decide +kernel
theorem sp_kind : (" " : Str).cps.all (· < 256) = true := by decide +kernel
theorem spl_eq (x : Str) : (Txt.split x " ").map TL.tl = TL.spl [32] 0 [] (TL.tl x) := by
  have := TL.split_spl x " " (by rw [sp_tl]; simp) (TL.kind_ok sp_kind)
  rwa [sp_tl] at this
theorem pre32 (c : Nat) (r : List Nat) : TL.pre [32] (c :: r) = decide (c = 32) := by
  unfold TL.pre
  simp
  rfl
theorem spl_app : ∀ (A acc B : List Nat), TL.spl [32] 0 acc (A ++ 32 :: B) = TL.spl [32] 0 acc A ++ TL.spl [32] 0 [] B
  | [], acc, B => by
    show TL.spl [32] 0 acc (32 :: B) = TL.spl [32] 0 acc [] ++ _
    rw [TL.spl, TL.spl, pre32]
    rfl
  | c :: A, acc, B => by
    show TL.spl [32] 0 acc (c :: (A ++ 32 :: B)) = TL.spl [32] 0 acc (c :: A) ++ _
    rw [TL.spl, TL.spl, pre32, pre32]
    by_cases h : c = 32
    · rw [decide_eq_true h]
      show acc :: TL.spl [32] 0 [] (A ++ 32 :: B) = (acc :: TL.spl [32] 0 [] A) ++ _
      rw [spl_app A [] B]
      rfl
    · rw [decide_eq_false h]
      show TL.spl [32] 0 (acc ++ [c]) (A ++ 32 :: B) = TL.spl [32] 0 (acc ++ [c]) A ++ _
      exact spl_app A _ B
theorem badT_nil {x : Str} (h : [] ∈ TL.spl [32] 0 [] (TL.tl x)) : badT x = true := by
  rw [← spl_eq] at h
  obtain ⟨s, hs, e⟩ := List.mem_map.mp h
  refine List.any_eq_true.mpr ⟨s, hs, ?_⟩
  have : s = "" := str_ext e
  unfold bad
  rw [decide_eq_true this]
  rfl
theorem bad_tail {x : List Nat} {y : Str} (e : TL.tl y = x ++ [32]) : badT y = true := badT_nil (by
  rw [e, spl_app x [] []]
  exact List.mem_append_right _ (.head _))
theorem bad_head {x : List Nat} {y : Str} (e : TL.tl y = 32 :: x) : badT y = true := badT_nil (by
  rw [e]
  have := spl_app [] [] x
  rw [List.nil_append] at this
  rw [this]
  exact .head _)
theorem bad_two {a c : List Nat} {y : Str} (e : TL.tl y = a ++ 32 :: 32 :: c) : badT y = true := badT_nil (by
  rw [e, spl_app a [] (32 :: c)]
  refine List.mem_append_right _ ?_
  have := spl_app [] [] c
  rw [List.nil_append] at this
  rw [this]
  exact .head _)
theorem of_join {y : Str} : ∀ {l : List Str} {c : Nat}, c ∈ (Str.join y l).cps.toList → c ∈ y.cps.toList ∨ ∃ s ∈ l, c ∈ s.cps.toList
  | [], c, h => by cases h
  | [x], c, h => .inr ⟨x, .head _, h⟩
  | x :: z :: r, c, h => by
    have h : c ∈ (x ++ y ++ Str.join y (z :: r)).cps.toList := h
    rw [K03.app_cps, K03.app_cps] at h
    rcases List.mem_append.mp h with h | h
    · rcases List.mem_append.mp h with h | h
      · exact .inr ⟨x, .head _, h⟩
      · exact .inl h
    · rcases of_join h with h | ⟨s, hs, hc⟩
      · exact .inl h
      · exact .inr ⟨s, .tail _ hs, hc⟩
theorem bad_nl {x : Str} (h : 10 ∈ TL.tl x) : badT x = true := by
  have h : 10 ∈ x.cps.toList := h
  rw [← StrLaws.join_split x " "] at h
  rcases of_join h with h | ⟨s, hs, hc⟩
  · have : (" " : Str).cps.toList = [32] := sp_tl
    rw [this] at h
    cases h with
    | tail _ h => cases h
  · refine List.any_eq_true.mpr ⟨s, hs, ?_⟩
    unfold bad
    rw [decide_eq_true hc, Bool.or_true]
/-- a word -/
def Wd (s : Str) : Prop := s ≠ "" ∧ 10 ∉ s.cps.toList ∧ 32 ∉ s.cps.toList
theorem split_good {ws : List Str} (hne : ws ≠ []) (h : ∀ w ∈ ws, Wd w) : Txt.split (Txt.join " " ws) " " = ws := TL.split_join sp_tl sp_kind hne fun p hp => (h p hp).2.2
theorem good_no {ws : List Str} (h : ∀ w ∈ ws, Wd w) : ws.any bad = false := by
  rw [List.any_eq_false]
  intro w hw
  have := h w hw
  unfold bad
  rw [decide_eq_false this.1, decide_eq_false this.2.1]
  simp
theorem due_good {ws : List Str} (hne : ws ≠ []) (h : ∀ w ∈ ws, Wd w) : badT (Txt.join " " ws) = false ∧ dueW (Txt.join " " ws) = .vl (ws.map W.str) := by
  have e : badT (Txt.join " " ws) = false := by
    unfold badT
    rw [split_good hne h]
    exact good_no h
  refine ⟨e, ?_⟩
  unfold dueW
  rw [e, split_good hne h]
  rfl
theorem due_bad {x : Str} (h : badT x = true) : dueW x = .non := by
  unfold dueW
  rw [h]
  rfl
theorem join_snoc : ∀ (ws : List Str) (w : Str), ws ≠ [] → Txt.join " " (ws ++ [w]) = Txt.join " " ws ++ " " ++ w := by
  intro ws w
  rw [TL.join_eq, TL.join_eq]
  induction ws with
  | nil => exact fun h => absurd rfl h
  | cons x r ih =>
    intro _
    cases r with
    | nil => rfl
    | cons y r =>
      show x ++ " " ++ Str.join " " ((y :: r) ++ [w]) = (x ++ " " ++ Str.join " " (y :: r)) ++ " " ++ w
      rw [ih (by simp)]
      refine str_ext ?_
      simp only [K03.app_cps, List.append_assoc]
theorem join_one (w : Str) : Txt.join " " [w] = w := by
  rw [TL.join_eq]
  rfl
theorem sp_in : ∀ {ws : List Str}, 2 ≤ ws.length → 32 ∈ (Txt.join " " ws).cps.toList
  | [], h => by simp at h
  | [_], h => by simp at h
  | x :: y :: r, _ => by
    rw [TL.join_eq]
    show 32 ∈ (x ++ " " ++ Str.join " " (y :: r)).cps.toList
    rw [K03.app_cps, K03.app_cps]
    exact List.mem_append_left _ (List.mem_append_right _ (by rw [← tl_cps, sp_tl]; exact .head _))
theorem rep_two {x : Str} (h : 32 ∈ x.cps.toList) : badT (Txt.replaceN x " " "  " 1) = true ∧ (Txt.replaceN x " " "  " 1).length = x.length + 1 := by
  have e1 : (" " : Str) = ⟨#[32]⟩ := by decide +kernel
  have e2 : ("  " : Str).cps.toList = [32, 32] := by decide +kernel
  obtain ⟨j, hj⟩ := (PyProof.Rows.mem_iff_at x 32).mp h
  have ol := StrLaws.occ_length_le x " " 0 x.length 1
  rcases StrLaws.occ_head x " " 1 (Nat.le_refl 1) with ⟨_, hn⟩ | ⟨i, r, h0, hi, _⟩
  · rw [e1] at hn
    exact absurd hj (hn j)
  · rw [h0] at ol
    have er : r = [] := List.eq_nil_of_length_eq_zero (by simpa using ol)
    subst er
    have l1 : (" " : Str).length = 1 := rfl
    have il : i + 1 ≤ x.length := by
      have := hi.1
      rwa [l1] at this
    have e : (Txt.replaceN x " " "  " 1).cps.toList = (x.cps.toList.drop 0).take (i - 0) ++ [32, 32] ++ (x.cps.toList.drop (i + 1)).take (x.length - (i + 1)) := by
      unfold Txt.replaceN
      rw [h0, if_neg (by rw [l1]; simp), StrLaws.glued_eq_join, StrLaws.partsBetween_eq]
      show (Builtin.Str.strSub x 0 i ++ "  " ++ Builtin.Str.strSub x (i + 1) x.length).cps.toList = _
      rw [K03.app_cps, K03.app_cps, e2, ← tl_cps, ← tl_cps, TL.tl_strSub, TL.tl_strSub]
    refine ⟨bad_two (a := (x.cps.toList.drop 0).take (i - 0)) (c := (x.cps.toList.drop (i + 1)).take (x.length - (i + 1))) ?_, ?_⟩
    · rw [tl_cps, e]
      simp
    · have xl : x.cps.toList.length = x.length := (len_cps x).symm
      rw [len_cps, e]
      simp only [List.length_append, List.length_take, List.length_drop, List.length_cons, List.length_nil, xl]
      omega
theorem repl_map (l : List Nat) : StrLaws.replL [32] [120] l = l.map fun c => if c = 32 then 120 else c := by
  induction l with
  | nil => exact StrLaws.replL_nil
  | cons c r ih =>
    by_cases h : c = 32
    · rw [StrLaws.replL_hit (by simp) (by simp [h])]
      simp [h, ih]
    · rw [StrLaws.replL_miss (by simpa using h), ih]
      simp [h]
theorem repl_cps (x : Str) : (Txt.replace x " " "x").cps.toList = x.cps.toList.map fun c => if c = 32 then 120 else c := by
  have e1 : (" " : Str).cps.toList = [32] := sp_tl
  have e2 : ("x" : Str).cps.toList = [120] := by decide +kernel
  rw [StrLaws.replace_list (by decide), e1, e2, repl_map]
end K03
/-! K03_i: a text split; a drawn line. -/
noncomputable section
namespace K03
open PySem PySem.NumText L2 PM Bag Wb
theorem lcH {α : Type} {h : MH} {σ : MS} {r : R W} {it : MS → MH → R MI} {mi : MI} {vs : List Nat} {tg : GM} {t : TM} {e : EM} (hr : fin h (eLc it vs tg t e σ h) = r) (xs : List α) (φ : α → W) (p : α → Bool) (f : α → W) (hi : it σ h = .ok mi h) (hf : mi.fuel = xs.length) (hw : ∀ i acc, mi.nx i (h ++ [.lst acc]) = some (xs[i]?.map φ)) (hz : xs.length ≤ sizeLine)
    (hs : ∀ a ∈ xs, ∀ acc, ∃ σ1, tg (φ a) (wipeM σ vs) (h ++ [.lst acc]) = some σ1 ∧ t σ1 (h ++ [.lst acc]) = .ok (p a) (h ++ [.lst acc]) ∧ (p a = true → e σ1 (h ++ [.lst acc]) = .ok (f a) (h ++ [.lst acc])))
    (hc : ∀ a ∈ xs, p a = true → Cls h.length (f a)) : r = .ok (.vl ((xs.filter p).map f)) h := by
  have q := sat_lc (mi := mi) (tg := tg) (t := t) (e := e) (σ := wipeM σ vs) (j := h.length) (h := h ++ [.lst []]) (Q := fun w g => w = .ref h.length ∧ g = h ++ [.lst ((xs.filter p).map f)]) xs φ
    (fun i acc g => g = h ++ [.lst acc] ∧ acc = ((xs.take i).filter p).map f) hf (fun i acc g ⟨e1, _⟩ => by subst e1; exact hw i acc) hz (fun i acc g ⟨e1, e2⟩ => by
      subst e1
      refine ⟨by simp, ?_⟩
      rw [e2, List.length_map]
      exact Nat.le_trans (List.length_filter_le _ _) (by rw [List.length_take]; omega)) ⟨rfl, rfl⟩ (fun i a acc g ha ⟨e1, e2⟩ => by
      subst e1
      obtain ⟨σ1, s1, s2, s3⟩ := hs a (List.mem_of_getElem? ha) acc
      have tk : xs.take (i + 1) = xs.take i ++ [a] := by rw [List.take_succ, ha]; rfl
      refine ⟨σ1, s1, p a, _, s2, ?_⟩
      cases hp : p a with
      | false =>
        simp only [Bool.false_eq_true, if_false]
        refine ⟨trivial, ?_⟩
        rw [e2, tk, List.filter_append]
        simp [hp]
      | true =>
        simp only [if_true]
        refine ⟨f a, _, s3 hp, by simp, by simp, ?_⟩
        rw [e2, tk, List.filter_append]
        simp [hp]) (fun acc g ⟨e1, e2⟩ => by
      rw [List.take_length] at e2
      exact ⟨rfl, by rw [e1, e2]⟩)
  obtain ⟨w, g, e1, rfl, rfl⟩ := q.get
  rw [← hr, ev_lc, hi]
  simp only [R.bind_ok]
  rw [e1]
  refine fin_l (k := 0) .refl rfl fun x hx => ?_
  obtain ⟨a, ha, rfl⟩ := List.mem_map.mp hx
  obtain ⟨h1, h2⟩ := List.mem_filter.mp ha
  exact hc a h1 h2
theorem fin_vl2 {h g : MH} {a : W} {xs : List W} (s : Stp h g) (ha : Cls h.length a) (hc : ∀ x ∈ xs, Cls h.length x) : fin h (.ok (.vl [a, .ref h.length]) (g ++ [.lst xs])) = .ok (.vl [a, .vl xs]) g := by
  refine fin_of s [.lst xs] _ _ ?_
  unfold fzW
  rw [if_neg (by simp)]
  dsimp only
  have e1 : fzW (g ++ [Ob.lst xs]) h.length (g ++ [Ob.lst xs]).length 19 a = some a := fzW_cls ha
  have e2 : fzW (g ++ [Ob.lst xs]) h.length (g ++ [Ob.lst xs]).length 19 (.ref h.length) = some (.vl xs) := by
    unfold fzW
    rw [if_neg (by simp)]
    dsimp only
    rw [if_neg (by rw [List.length_append, s.len]; simp), List.getElem?_append_right (by rw [s.len]; exact Nat.le_refl _), s.len, Nat.sub_self]
    simp only [List.getElem?_cons_zero]
    rw [fzW_cls_l hc]
    rfl
  simp only [mapO_cons, mapO_nil, e1, e2, Option.bind_some, Option.map_some]
section
variable {b N : Nat} {h G : MH} {x : Str}
theorem sp_len : (" " : Str).length = 1 := by decide +kernel
theorem split_few {x y : Str} : (Txt.split x y).length ≤ x.length + 2 := PyProof.Rows.split_le x y
theorem split_b (hl : x.length ≤ 100000) (g : MH) : bSplit [.str x, .str " "] g = .ok (.ref g.length) (g ++ [.lst ((Txt.split x " ").map W.str)]) := by
  simp [bSplit, sp_len, line_eq, show x.length + 2 ≤ 16777216 by omega]
theorem nl_in (s : Str) (g : MH) : inG2 false (.str "\n") (.str s) g = .ok (.bl (decide (10 ∈ s.cps.toList))) g := by
  have h1 : ("\n" : Str).length = 1 := by decide +kernel
  have h2 : ("\n" : Str).cps.toList.headD 0 = 10 := by decide +kernel
  have e : inG false (.str "\n") (.str s) g = .ok (.bl (decide (10 ∈ s.cps.toList))) g := by
    simp only [inG, h1, h2]
    rfl
  unfold inG2
  rw [e]
theorem eq_s (x y : Str) (G : MH) : bEq (.str x) (.str y) G = .ok (.bl (decide (x = y))) G := by
  rw [eq_ss2]
  rfl
theorem bls : ∀ l : List Str, blsOf (l.map fun s => W.bl (bad s)) = some (l.map bad)
  | [] => rfl
  | a :: l => by
    show (blsOf (l.map fun s => W.bl (bad s))).map (bad a :: ·) = _
    rw [bls l]
    rfl
theorem any_id (l : List Str) : (l.map bad).any id = l.any bad := by
  rw [List.any_map]
  rfl
theorem split_ok (hl : x.length ≤ 100000) (G : MH) : owa m_split_words [.str x] G = if badT x = true then .ok .non G else .ok (.ref G.length) (G ++ [.lst ((Txt.split x " ").map W.str)]) := by
  generalize hr_ : owa m_split_words _ _ = r_
  apply owa_eq hr_
  clear hr_
  refine ends_seq ?_
  simp [-ev_for, -ev_lc, -ev_dc, -List.map_map, -exists_and_left, -exists_and_right, e_nx, e_rt, bIsi_s]
  refine then_i ?_
  refine ends_seq ?_
  simp [-ev_for, -ev_lc, -ev_dc, -List.map_map, -exists_and_left, -exists_and_right, e_nx, e_rt, split_b hl]
  refine then_i ?_
  refine ends_ret ?_
  simp [-ev_for, -ev_lc, -ev_dc, -List.map_map, -exists_and_left, -exists_and_right]
  generalize hr : fin _ (eLc _ _ _ _ _ _ _) = r
  have k1 := split_few (x := x) (y := " ")
  have er := lcH hr (Txt.split x " ") W.str (fun _ => true) (fun s => .bl (bad s)) (mi := itL G.length ((Txt.split x " ").map W.str)) (by simp [iterW]) (by simp [itL]) (fun i acc => by
    show (match lstAt ((G ++ [Ob.lst ((Txt.split x " ").map W.str)]) ++ [Ob.lst acc]) G.length with | some ys => some ys[i]? | none => none) = _
    simp) (by rw [line_eq]; omega) (fun s hs acc => ⟨_, rfl, rfl, fun _ => by
    by_cases e : s = ""
    · simp [wipeM, e, bad, eq_s]
    · simp [wipeM, e, bad, nl_in, eq_s]⟩) (fun _ _ _ => .bl _)
  rw [List.filter_eq_self.mpr (fun _ _ => rfl)] at er
  subst er
  have aa := fun g => all_vl (f := fun ks => ks.any id) (h := g) (bls (Txt.split x " "))
  have ab : (List.map bad (Txt.split x " ")).any id = badT x := any_id _
  simp only [R.bind_ok, aa, ab]
  cases e : badT x with
  | true =>
    have := fin_app (h := G) (l := [Ob.lst ((Txt.split x " ").map W.str)]) (w := .non) .non
    simp [e_rt, fn_rt, ownA, this]
  | false =>
    have := ownA_new (h := G) (g := G) (xs := (Txt.split x " ").map W.str) .refl (fun w hw => by obtain ⟨s, _, rfl⟩ := List.mem_map.mp hw; exact .str _)
    simp only [tru_bl, R.bind_ok, Bool.false_eq_true, if_false, R.st_ok, e_rt, fn_rt, this]
end
end K03
/-! K03_j: a drawn line. -/
noncomputable section
namespace K03
open PySem PySem.NumText L2 PM Bag Wb
abbrev eWd (d : Nat) : EM := eJoinR "" " " "x" (eFz (eLc (iRange rng1 (aCons (e2 bAdd (eC (.int 1)) (eCall (fz m__law_take) (aCons (eVar 0) (aCons (eC (.int 6)) aNil)))) aNil)) [7] (gN 7) tYesM (e2 bIxX (eVar 5) (eCall (fz m__law_take) (aCons (eVar 0) (aCons (eC (.int 14)) aNil))))))
section
variable {b N : Nat} {h h0 : MH} {σ : MS}
theorem lc_drawR {α : Type} {it : MS → MH → R MI} {mi : MI} {vs : List Nat} {tg : GM} {t : TM} {e : EM} (xs : List α) (φ : α → W) (c : Nat) (P : Nat → List W → Prop) (hi : it σ h0 = .ok mi h) (hf : mi.fuel = xs.length) (hw : ∀ i g, mi.nx i g = some (xs[i]?.map φ)) (hz : xs.length ≤ sizeLine) (B : Bx b N h) (hp0 : P 0 [])
    (hP : ∀ i acc, P i acc → acc.length ≤ i)
    (hs : ∀ i a acc h1, xs[i]? = some a → Bu b (N + c * i) h h1 → P i acc → ∃ σ1, tg (φ a) (wipeM σ vs) (h1 ++ [.lst acc]) = some σ1 ∧ ∃ k h2, t σ1 (h1 ++ [.lst acc]) = .ok k (h2 ++ [.lst acc]) ∧ (if k = true then ∃ y h3, e σ1 (h2 ++ [.lst acc]) = .ok y (h3 ++ [.lst acc]) ∧ Bu b (N + c * (i + 1)) h h3 ∧ P (i + 1) (acc ++ [y]) else Bu b (N + c * (i + 1)) h h2 ∧ P (i + 1) acc)) :
    ∃ ys h', eLc it vs tg t e σ h0 = .ok (.ref h.length) (h' ++ [.lst ys]) ∧ Bu b (N + c * xs.length) h h' ∧ P xs.length ys := by
  have q := sat_lc (mi := mi) (tg := tg) (t := t) (e := e) (σ := wipeM σ vs) (j := h.length) (h := h ++ [.lst []]) (Q := fun w g => ∃ ys h', w = .ref h.length ∧ g = h' ++ [.lst ys] ∧ Bu b (N + c * xs.length) h h' ∧ P xs.length ys) xs φ
    (fun i acc g => ∃ h', g = h' ++ [.lst acc] ∧ Bu b (N + c * i) h h' ∧ P i acc) hf (fun i acc g _ => hw i g) hz (fun i acc g ⟨h', e1, B1, p⟩ => by
      subst e1
      exact ⟨by rw [mut_appn B1.len]; rfl, hP i acc p⟩) ⟨h, rfl, Bu.refl (by simpa using B), hp0⟩ (fun i a acc g ha ⟨h', e1, B1, p⟩ => by
      subst e1
      obtain ⟨σ1, s1, k, h2, s2, s3⟩ := hs i a acc h' ha B1 p
      refine ⟨σ1, s1, k, _, s2, ?_⟩
      cases k with
      | false => exact ⟨h2, rfl, by simpa using s3⟩
      | true =>
        simp only [if_true] at s3 ⊢
        obtain ⟨y, h3, s4, B3, p3⟩ := s3
        exact ⟨y, _, s4, by rw [mut_appn B3.len]; rfl, h3, by rw [set_appn B3.len]; rfl, B3, p3⟩) (fun acc g ⟨h', e1, B1, p⟩ => ⟨acc, h', rfl, e1, B1, p⟩)
  obtain ⟨w, g, e1, ys, h', e2, e3, B', p⟩ := q.get
  subst e2 e3
  refine ⟨ys, h', ?_, B', p⟩
  rw [ev_lc, hi]
  simp only [R.bind_ok]
  rw [e1]
end
def sgns : Str := "abz AZ09:/.-'~"
theorem sgns_eq : ∀ c ∈ sgns.cps.toList, c < 200 ∧ c ≠ 10 := by unfold sgns; decide +kernel
def WdS (s : Str) : Prop := Wd s ∧ Cp s ∧ s.length ≤ 6
section
variable {b N : Nat} {h G : MH} {x : Str}
theorem wd_ok {cs : List Nat} (h : ∀ c ∈ cs, c < 200 ∧ c ≠ 10) (h1 : 1 ≤ cs.length) (h6 : cs.length ≤ 6) : WdS (Txt.replace (Txt.join "" (cs.map chs)) " " "x") := by
  have e := repl_cps (Txt.join "" (cs.map chs))
  rw [join_chs] at e
  generalize Txt.replace (Txt.join "" (cs.map chs)) " " "x" = y at e
  have ly : y.length = cs.length := by rw [len_cps, e, List.length_map]
  refine ⟨⟨fun z => ?_, fun z => ?_, fun z => ?_⟩, fun c z => ?_, by omega⟩
  · subst z
    have : ("" : Str).length = 0 := rfl
    omega
  · rw [e] at z
    obtain ⟨c, hc, q⟩ := List.mem_map.mp z
    have := h c hc
    split at q <;> omega
  · rw [e] at z
    obtain ⟨c, hc, q⟩ := List.mem_map.mp z
    have := h c hc
    split at q <;> omega
  · rw [e] at z
    obtain ⟨d, hc, q⟩ := List.mem_map.mp z
    have := h d hc
    split at q <;> omega
theorem part_ok (B : Bx b N G) (hN : N ≤ 100000) (x1 x2 x3 x4 x6 x7 x8 x9 : Option W) : ∃ (w : Str) (G' : MH), eWd 0 [some (.ref b), x1, x2, x3, x4, some (.str sgns), x6, x7, x8, x9] G = .ok (.str w) G' ∧ Bu b (N + 7) G G' ∧ WdS w := by
  obtain ⟨m, G1, t1, m6, B1⟩ := draw' B (by omega) (m := 6) (by decide) (by decide)
  have ad : ∀ (x y : Int) g, bAdd (.int x) (.int y) g = .ok (.int (x + y)) g := fun _ _ _ => rfl
  have z1 : (1 + (m : Int)) = ((m + 1 : Nat) : Int) := by omega
  have it1 : iRange rng1 (aCons (e2 bAdd (eC (.int 1)) (eCall (fz m__law_take) (aCons (eVar 0) (aCons (eC (.int 6)) aNil)))) aNil) [some (.ref b), x1, x2, x3, x4, some (.str sgns), x6, x7, x8, x9] G = .ok (itR 0 (m + 1)) G1 := by
    simp [iRange, t1, ad, z1]
    exact rng_nat (n := m + 1) (by omega) G1
  obtain ⟨ys, G2, e2', B2, cs, ecs, cl, cr⟩ := lc_drawR (b := b) (N := N + 1) (h0 := G) (h := G1) (mi := itR 0 (m + 1)) (vs := [7]) (tg := gN 7) (t := tYesM) (e := e2 bIxX (eVar 5) (eCall (fz m__law_take) (aCons (eVar 0) (aCons (eC (.int 14)) aNil)))) (List.range (m + 1)) (fun i => .int i) 1 (fun i acc => ∃ cs : List Nat, acc = (cs.map chs).map W.str ∧ cs.length = i ∧ ∀ c ∈ cs, c < 200 ∧ c ≠ 10) it1 (by simp [itR]) (fun i g => by
    show (if i < m + 1 then _ else _) = _
    by_cases e : i < m + 1 <;> simp [e]) (by rw [line_eq]; simp; omega) B1.bx ⟨[], rfl, rfl, fun _ z => nomatch z⟩ (fun i acc ⟨cs, e1, e2, _⟩ => by
    subst e1
    simp [e2]) (fun i a acc g ha Bi ⟨cs, e1, e2, e3⟩ => by
    obtain ⟨lt, _⟩ := List.getElem?_eq_some_iff.mp ha
    have lt' : i < m + 1 := by simpa using lt
    obtain ⟨d, g2, t3, d0, d1, Bd⟩ := tk.run [.lst acc] (m := 14) Bi.bx (by omega) (by omega) (by omega)
    obtain ⟨c, mc, ec⟩ := sign_at (S := sgns) d0 (by exact d1) (by rw [line_eq]; decide)
    refine ⟨_, rfl, true, _, rfl, ?_⟩
    rw [if_pos rfl]
    refine ⟨.str (chs c), g2, ?_, (Bi.trans Bd).mono (by omega), cs ++ [c], by subst e1; simp, by simp [e2], fun x hx => ?_⟩
    · simp [wipeM, t3, ec]
    · rcases List.mem_append.mp hx with hx | hx
      · exact e3 x hx
      · rw [List.mem_singleton.mp hx]
        exact sgns_eq c mc)
  have cl : cs.length = m + 1 := by simpa using cl
  subst ecs
  have fe : fin G (.ok (.ref G1.length) (G2 ++ [.lst ((cs.map chs).map W.str)])) = .ok (.vl ((cs.map chs).map W.str)) G2 := by
    have := (B1.trans B2).fin_l [] (xs := (cs.map chs).map W.str) (k := 0) rfl (fun x hx => by
      obtain ⟨y, _, rfl⟩ := List.mem_map.mp hx
      exact .str _)
    have l2 : G2.length = G1.length := B2.len
    rw [← l2]
    simpa using this
  have jl : (Txt.join "" (cs.map chs)).length = m + 1 := by rw [len_join, cl]
  refine ⟨Txt.replace (Txt.join "" (cs.map chs)) " " "x", G2, ?_, (B1.trans B2).mono (by simp; omega), wd_ok cr (by omega) (by omega)⟩
  have sq : (seqAt (.vl ((cs.map chs).map W.str)) G2).bind strsOf = some (cs.map chs) := by
    show strsOf ((cs.map chs).map W.str) = _
    exact strsOf_map _
  show ((fin G (eLc _ _ _ _ _ _ _)).bind _) = _
  rw [e2', fe]
  simp only [R.bind_ok, sq]
  have l0 : ("" : Str).length = 0 := rfl
  have lx : ("x" : Str).length = 1 := rfl
  have su := sum_chs cs
  rw [if_pos ⟨by rw [su, l0]; omega, by rw [jl, lx]; omega⟩]
end
end K03
/-! K03_k: a drawn line, its laws. -/
noncomputable section
namespace K03
open PySem PySem.NumText L2 PM Bag Wb
section
variable {b N M : Nat} {h G g1 : MH} {x : Str}
abbrev retL : SM := (sRet (eFz (eLst (aCons (eVar 2) (aCons (eIf (tTru (eVar 3)) (eVar 1) (eC .non)) aNil)))))
theorem tail_ok (B : Bu b M h g1) (ws : List Str) (gd : Bool) (x : Str) (x0 x4 x5 x6 x7 x8 x9 : Option W) {Q : R W → Prop} (q : Q (.ok (.vl [.str x, if gd = true then .vl (ws.map W.str) else .non]) g1)) :
    (retL [x0, some (.ref h.length), some (.str x), some (.bl gd), x4, x5, x6, x7, x8, x9] (g1 ++ [.lst (ws.map W.str)])).ends (fnE fun r => Q (fin h r)) := by
  have cw : ∀ w ∈ ws.map W.str, Cls h.length w := fun w hw => by obtain ⟨s, _, rfl⟩ := List.mem_map.mp hw; exact .str _
  have l1 : g1.length = h.length := B.len
  have z2 : 2 ≤ sizeLine := by rw [line_eq]; omega
  refine ends_ret ?_
  cases gd with
  | true =>
    have f1 : fin (g1 ++ [Ob.lst (ws.map W.str)]) (.ok (.ref (g1 ++ [Ob.lst (ws.map W.str)]).length) ((g1 ++ [Ob.lst (ws.map W.str)]) ++ [.lst [.str x, .ref h.length]])) = .ok (.vl [.str x, .ref h.length]) (g1 ++ [Ob.lst (ws.map W.str)]) := fin_l0 (by simp; omega)
    have f2 := fin_vl2 (a := .str x) B.stp (.str _) cw
    have e : eFz (eLst (aCons (eVar 2) (aCons (eIf (tTru (eVar 3)) (eVar 1) (eC .non)) aNil))) [x0, some (.ref h.length), some (.str x), some (.bl true), x4, x5, x6, x7, x8, x9] (g1 ++ [.lst (ws.map W.str)]) = .ok (.vl [.str x, .ref h.length]) (g1 ++ [Ob.lst (ws.map W.str)]) := by
      refine fz_e ?_ f1
      simp [z2]
    rw [e]
    simp only [R.st_ok]
    rw [e_rt, fn_rt, f2]
    exact q
  | false =>
    have f1 : fin (g1 ++ [Ob.lst (ws.map W.str)]) (.ok (.ref (g1 ++ [Ob.lst (ws.map W.str)]).length) ((g1 ++ [Ob.lst (ws.map W.str)]) ++ [.lst [.str x, .non]])) = .ok (.vl [.str x, .non]) (g1 ++ [Ob.lst (ws.map W.str)]) := fin_l0 (by simp)
    have f2 := fin_cls B.stp [Ob.lst (ws.map W.str)] (w := .vl [.str x, .non]) (.vl _ (by simp))
    have e : eFz (eLst (aCons (eVar 2) (aCons (eIf (tTru (eVar 3)) (eVar 1) (eC .non)) aNil))) [x0, some (.ref h.length), some (.str x), some (.bl false), x4, x5, x6, x7, x8, x9] (g1 ++ [.lst (ws.map W.str)]) = .ok (.vl [.str x, .non]) (g1 ++ [Ob.lst (ws.map W.str)]) := by
      refine fz_e ?_ f1
      simp [z2]
    rw [e]
    simp only [R.st_ok]
    rw [e_rt, fn_rt, f2]
    exact q
theorem repN_ok (hl : x.length ≤ 1000) {σ : MS} (hx : σ[2]? = some (some (.str x))) (h2 : 32 ∈ x.cps.toList) (G : MH) : eRepN (eVar 2) " " "  " 1 σ G = .ok (.str (Txt.replaceN x " " "  " 1)) G := by
  have v : eVar 2 σ G = .ok (.str x) G := by simp [hx]
  show ((eVar 2 σ G).bind _) = _
  rw [v]
  have l2 : ("  " : Str).length = 2 := rfl
  have r2 := rep_two h2
  simp only [R.bind_ok]
  rw [if_pos ⟨by omega, by rw [l2]; omega, by rw [r2.2, line_eq]; omega⟩]
/-- what is known of a drawn line -/
def Ln (x : Str) : Prop := x.length ≤ 1000 ∧ (badT x = false → ∃ ws : List Str, Txt.split x " " = ws ∧ ws.length ≤ 5 ∧ ∀ w ∈ ws, WdS w)
theorem ln_bad (hl : x.length ≤ 1000) (hb : badT x = true) : Ln x := ⟨hl, fun z => by rw [hb] at z; cases z⟩
theorem due_of {ws : List Str} {gd : Bool} (hb : badT x = !gd) (he : gd = true → Txt.split x " " = ws) : (if gd = true then W.vl (ws.map W.str) else .non) = dueW x := by
  unfold dueW
  cases gd with
  | true => rw [hb, he rfl]; rfl
  | false => rw [hb]; rfl
abbrev bodyL : SM := (sSeq (sSet 5 (eC (.str "abz AZ09:/.-'~")))
    (sSeq (sSet 6 (eWd 0))
    (sSeq (sExpr (eBM "list" bApp (eVar 1) (aCons (eVar 6) aNil)))
    (sSet 2 (e2 bAdd (e2 bAdd (eVar 2) (e2 bIxX (eFz (eLst (aCons (eC (.str " ")) (aCons (eC (.str "")) aNil)))) (eCall bInt (aCons (e2 bEq (eVar 4) (eC (.int 0))) aNil)))) (eVar 6))))))
theorem join_nil : Txt.join " " [] = "" := by decide +kernel
theorem app_nil (x : Str) : x ++ ("" : Str) = x := str_ext (by rw [K03.app_cps]; show _ ++ [] = _; rw [List.append_nil])
theorem nil_app (x : Str) : ("" : Str) ++ x = x := str_ext (by rw [K03.app_cps]; rfl)
theorem join_next (ws : List Str) (w : Str) {i : Nat} (l : ws.length = i) : Txt.join " " ws ++ (if (i : Int) = 0 then ("" : Str) else " ") ++ w = Txt.join " " (ws ++ [w]) := by
  by_cases e : ws = []
  · subst e
    subst l
    rw [if_pos (show ((([] : List Str).length : Nat) : Int) = 0 from rfl), join_nil, app_nil, nil_app]
    exact (join_one w).symm
  · have : ¬ (i : Int) = 0 := fun z => e (List.eq_nil_of_length_eq_zero (by omega))
    rw [if_neg this, join_snoc ws w e]
theorem body_ok (B : Bx b N g1) (hN : N ≤ 50000) (l1 : g1.length = h.length) {i : Nat} {ws : List Str} (lw : ws.length = i) (li : i ≤ 5) (ll : (Txt.join " " ws).length ≤ 7 * i) (x5 x6 x7 x8 x9 : Option W) {F : En}
    (hE : ∀ (w : Str) (x6 : Option W) g2, WdS w → Bu b (N + 7) g1 g2 → (Txt.join " " (ws ++ [w])).length ≤ 7 * (i + 1) → F.nx [some (.ref b), some (.ref h.length), some (.str (Txt.join " " (ws ++ [w]))), some (.bl true), some (.int (i : Int)), some (.str sgns), x6, x7, x8, x9] (g2 ++ [.lst ((ws ++ [w]).map W.str)])) :
    (bodyL [some (.ref b), some (.ref h.length), some (.str (Txt.join " " ws)), some (.bl true), some (.int (i : Int)), x5, x6, x7, x8, x9] (g1 ++ [.lst (ws.map W.str)])).ends F := by
  refine ends_seq (ends_set (w := .str sgns) (g := g1 ++ [.lst (ws.map W.str)]) rfl (then_i ?_))
  simp only [List.set_cons_zero, List.set_cons_succ]
  obtain ⟨w, G', e6, B6, hw⟩ := part_ok (B.app [.lst (ws.map W.str)]) (by omega) (some (.ref h.length)) (some (.str (Txt.join " " ws))) (some (.bl true)) (some (.int (i : Int))) x6 x7 x8 x9
  obtain ⟨g2, rfl, B2⟩ := B6.cut B.lt
  refine ends_seq (ends_set e6 (then_i ?_))
  simp only [List.set_cons_zero, List.set_cons_succ]
  have l2 : g2.length = h.length := B2.len.trans l1
  have bt : bty (.ref h.length) (g2 ++ [Ob.lst (ws.map W.str)]) = some "list" := by rw [← l2]; simp [bty]
  have ap : bApp [.ref h.length, .str w] (g2 ++ [Ob.lst (ws.map W.str)]) = .ok .non (g2 ++ [Ob.lst ((ws ++ [w]).map W.str)]) := by
    rw [← l2]
    have : ws.length < sizeLine := by rw [line_eq]; omega
    simp [bApp, this]
  refine ends_seq ?_
  simp [-ev_for, -ev_lc, -ev_dc, -List.map_map, -List.map_append, -exists_and_left, -exists_and_right, bt, ap, e_nx]
  refine then_i ?_
  have z2 : 2 ≤ sizeLine := by rw [line_eq]; omega
  have f2 : ∀ H : MH, fin H (.ok (.ref H.length) (H ++ [.lst [.str " ", .str ""]])) = .ok (.vl [.str " ", .str ""]) H := fun H => fin_l0 (by simp)
  have eqi : ∀ (x y : Int) (G : MH), bEq (.int x) (.int y) G = .ok (.bl (decide (x = y))) G := fun x y G => by
    show R.ok (W.bl (x == y)) G = _
    congr 2
  have s6 := hw.2.2
  have l0 : ("" : Str).length = 0 := rfl
  have lsp : (" " : Str).length = 1 := rfl
  obtain ⟨sp, hsp⟩ : ∃ sp : Str, sp = (if (i : Int) = 0 then ("" : Str) else " ") := ⟨_, rfl⟩
  have lsp1 : sp.length ≤ 1 := by rw [hsp]; split <;> omega
  have ix : ∀ H, bIxX (.vl [.str " ", .str ""]) (.int (if decide ((i : Int) = 0) = true then 1 else 0)) H = .ok (.str sp) H := fun H => by
    rw [hsp]
    by_cases e : (i : Int) = 0
    · rw [decide_eq_true e, if_pos e]
      exact ixX_vl rfl
    · rw [decide_eq_false e, if_neg e]
      exact ixX_vl rfl
  have jn := join_next ws w lw
  rw [← hsp] at jn
  have a1 : ∀ H, bAdd (.str (Txt.join " " ws)) (.str sp) H = .ok (.str (Txt.join " " ws ++ sp)) H := fun H => add_s (by omega) H
  have a2 : ∀ H, bAdd (.str (Txt.join " " ws ++ sp)) (.str w) H = .ok (.str (Txt.join " " (ws ++ [w]))) H := fun H => by
    rw [← jn]
    exact add_s (by rw [app_len]; omega) H
  have bi : ∀ k H, bInt [.bl k] H = .ok (.int (if k = true then 1 else 0)) H := fun _ _ => rfl
  refine ends_set (w := .str (Txt.join " " (ws ++ [w]))) (g := g2 ++ [Ob.lst ((ws ++ [w]).map W.str)]) ?_ ?_
  · simp only [ev_e2, ev_var, ev_fz, ev_lst, ev_cons, ev_nil, ev_c, ev_call, List.getElem?_cons_zero, List.getElem?_cons_succ, R.bind_ok, List.length_cons, List.length_nil, z2, if_true, f2, eqi, bi, ix, a1, a2]
  · have := hE w (some (.str w)) g2 hw B2 (by
      rw [← jn, app_len, app_len]
      omega)
    simpa using this
theorem ends_ifF {σ : MS} {G : MH} {t : TM} {m n : SM} {F : En} (q : t σ G = .ok false G) (c : (n σ G).ends F) : (sIf t m n σ G).ends F := by
  rw [ev_sif, q]
  exact c
theorem eq_i (x y : Int) (G : MH) : bEq (.int x) (.int y) G = .ok (.bl (decide (x = y))) G := by
  show R.ok (W.bl (x == y)) G = _
  congr 2
theorem eqT {σ : MS} {j : Nat} {x y : Int} (hx : σ[j]? = some (some (.int x))) (G : MH) : (tTru (e2 bEq (eVar j) (eC (.int y)))) σ G = .ok (decide (x = y)) G := by
  simp [hx, eq_i]
  rfl
theorem set2 {σ : MS} {e : EM} {G g : MH} {y : Str} {F : En} (q : e σ G = .ok (.str y) g) (k : F.nx ((σ.set 2 (some (.str y))).set 3 (some (.bl false))) g) : (sPar 2 3 (aCons e (aCons (eC (.bl false)) aNil)) σ G).ends F := by
  have : (aCons e (aCons (eC (.bl false)) aNil)) σ G = .ok [.str y, .bl false] g := by
    rw [ev_cons, q]
    rfl
  show (((aCons e (aCons (eC (.bl false)) aNil)) σ G).st σ _).ends F
  rw [this]
  exact e_nx.mpr k
theorem line_ok (B : Bx b N h) (hN : N ≤ 40000) : ∃ (x : Str) (h' : MH), fz m__law_line [.ref b] h = .ok (.vl [.str x, dueW x]) h' ∧ Bu b (N + 50) h h' ∧ Ln x := by
  generalize hr_ : fz m__law_line _ _ = r_
  apply fz_eq hr_
  clear hr_
  refine ends_seq ?_
  have z0 : (0 : Nat) ≤ sizeLine := Nat.zero_le _
  simp [-ev_for, -ev_lc, -ev_dc, -List.map_map, -List.map_append, -exists_and_left, -exists_and_right, z0, e_nx]
  refine then_i ?_
  obtain ⟨m, h1, t1, m5, B1⟩ := draw' (B.app [.lst []]) (by omega) (m := 5) (by decide) (by decide)
  obtain ⟨g0, rfl, B0⟩ := B1.cut B.lt
  have ad : ∀ (x y : Int) g, bAdd (.int x) (.int y) g = .ok (.int (x + y)) g := fun _ _ _ => rfl
  have z1 : (1 + (m : Int)) = ((m + 1 : Nat) : Int) := by omega
  have rn := rng_nat (n := m + 1) (by omega) (g0 ++ [Ob.lst []])
  refine ends_seq ?_
  rw [ev_for]
  simp [-ev_for, -ev_lc, -ev_dc, -List.map_map, -List.map_append, -exists_and_left, -exists_and_right, t1, ad]
  rw [z1, rn]
  simp only [R.st_ok]
  refine ends_rng (n := m + 1) (fun i σ g => ∃ (ws : List Str) (x4 x5 x6 : Option W) (g1 : MH), σ = [some (.ref b), some (.ref h.length), some (.str (Txt.join " " ws)), some (.bl true), x4, x5, x6, none, none, none] ∧ g = g1 ++ [.lst (ws.map W.str)] ∧ Bu b (N + 1 + 7 * i) h g1 ∧ ws.length = i ∧ (Txt.join " " ws).length ≤ 7 * i ∧ ∀ w ∈ ws, WdS w) ⟨[], none, none, none, g0, by rw [join_nil], rfl, B0, rfl, Nat.zero_le _, fun _ z => nomatch z⟩ (fun i σ g hi ⟨ws, x4, x5, x6, g1, e1, e2, Bi, lw, ll, hw⟩ => ?_) (fun σ g ⟨ws, x4, x5, x6, g1, e1, e2, Bi, lw, ll, hw⟩ => ?_)
  · subst e1 e2
    refine ⟨_, rfl, ?_⟩
    simp only [List.set_cons_zero, List.set_cons_succ, Int.zero_add]
    refine body_ok Bi.bx (by omega) Bi.len lw (by omega) ll _ _ _ _ _ fun w x6 g2 hww B2 l2 => ⟨ws ++ [w], _, _, x6, g2, rfl, rfl, (Bi.trans B2).mono (by omega), by simp [lw], l2, fun v hv => ?_⟩
    rcases List.mem_append.mp hv with hv | hv
    · exact hw v hv
    · rw [List.mem_singleton.mp hv]; exact hww
  · subst e1 e2
    refine then_i ?_
    have ne : ws ≠ [] := fun z => by rw [z] at lw; simp at lw
    have du := due_good ne fun w hw' => (hw w hw').1
    have sg := split_good ne fun w hw' => (hw w hw').1
    generalize hline : Txt.join " " ws = line at ll du sg
    have hll : line.length ≤ 40 := by omega
    obtain ⟨wy, h2, t2, w9, C2⟩ := draw' (Bi.bx.app [.lst (ws.map W.str)]) (by omega) (m := 9) (by decide) (by decide)
    obtain ⟨g2, rfl, B2⟩ := C2.cut Bi.bx.lt
    refine ends_seq (ends_set (w := .int (wy : Int)) (g := g2 ++ [.lst (ws.map W.str)]) (by simp [-List.map_map, t2]) (then_i ?_))
    simp only [List.set_cons_zero, List.set_cons_succ]
    have ls : ∀ G, bLen [.str line] G = .ok (.int line.length) G := fun G => len_s (by rw [line_eq]; omega)
    obtain ⟨a, h3, t3, a9, C3⟩ := draw' (B2.bx.app [.lst (ws.map W.str)]) (by omega) (m := (line.length : Int) + 1) (by omega) (by omega)
    obtain ⟨g3, rfl, B3⟩ := C3.cut B2.bx.lt
    refine ends_seq (ends_set (w := .int (a : Int)) (g := g3 ++ [.lst (ws.map W.str)]) (by simp [-List.map_map, ls, ad, t3]) (then_i ?_))
    simp only [List.set_cons_zero, List.set_cons_succ]
    have B9 : Bu b (N + 50) h g3 := ((Bi.trans B2).trans B3).mono (by omega)
    have fin_ : ∀ (gd : Bool) (y : Str), badT y = !gd → (gd = true → Txt.split y " " = ws) → y.length ≤ 1000 → (retL [some (.ref b), some (.ref h.length), some (.str y), some (.bl gd), x4, x5, x6, none, some (.int (wy : Int)), some (.int (a : Int))] (g3 ++ [.lst (ws.map W.str)])).ends (fnE fun r => ∃ (x : Str) (h' : MH), fin h r = .ok (.vl [.str x, dueW x]) h' ∧ Bu b (N + 50) h h' ∧ Ln x) := fun gd y hb he hly => tail_ok B9 ws gd y _ _ _ _ _ _ _ (Q := fun r => ∃ (x : Str) (h' : MH), r = .ok (.vl [.str x, dueW x]) h' ∧ Bu b (N + 50) h h' ∧ Ln x) ⟨y, g3, by rw [due_of hb he], B9, hly, fun z => by
      cases gd with
      | true => exact ⟨ws, he rfl, by omega, hw⟩
      | false => rw [z] at hb; cases hb⟩
    have fb : ∀ (y : Str), badT y = true → y.length ≤ 1000 → (retL [some (.ref b), some (.ref h.length), some (.str y), some (.bl false), x4, x5, x6, none, some (.int (wy : Int)), some (.int (a : Int))] (g3 ++ [.lst (ws.map W.str)])).ends (fnE fun r => ∃ (x : Str) (h' : MH), fin h r = .ok (.vl [.str x, dueW x]) h' ∧ Bu b (N + 50) h h' ∧ Ln x) := fun y hb hly => fin_ false y hb (fun z => nomatch z) hly
    have lsp : (" " : Str).length = 1 := rfl
    have lnl : ("\n" : Str).length = 1 := rfl
    refine ends_seq ?_
    by_cases w0 : (wy : Int) = 0
    · refine ends_ifT (by rw [eqT rfl, decide_eq_true w0]) (set2 (y := line ++ " ") (g := g3 ++ [.lst (ws.map W.str)]) ?_ (then_i ?_))
      · have := add_s (x := line) (y := " ") (by omega) (g3 ++ [.lst (ws.map W.str)])
        simp [-List.map_map, this]
      · exact fb _ (bad_tail (x := line.cps.toList) (by rw [tl_cps, K03.app_cps, ← tl_cps " ", sp_tl])) (by rw [app_len]; omega)
    refine ends_ifF (by rw [eqT rfl, decide_eq_false w0]) ?_
    by_cases w1 : (wy : Int) = 1
    · refine ends_ifT (by rw [eqT rfl, decide_eq_true w1]) (set2 (y := " " ++ line) (g := g3 ++ [.lst (ws.map W.str)]) ?_ (then_i ?_))
      · have := add_s (x := " ") (y := line) (by omega) (g3 ++ [.lst (ws.map W.str)])
        simp [-List.map_map, this]
      · exact fb _ (bad_head (x := line.cps.toList) (by rw [tl_cps, K03.app_cps, ← tl_cps " ", sp_tl]; rfl)) (by rw [app_len]; omega)
    refine ends_ifF (by rw [eqT rfl, decide_eq_false w1]) ?_
    by_cases w2 : (wy : Int) = 2
    · have sl : ∀ lo hi H, bSl (.str line) lo hi H = .ok (.str (cutS line lo hi)) H := fun lo hi H => sl_s (by rw [line_eq]; omega)
      have lA : ∀ lo hi, (cutS line lo hi).length ≤ 40 := fun lo hi => Nat.le_trans (cut_len line lo hi) hll
      have x1 : ∀ lo hi H, bAdd (.str (cutS line lo hi)) (.str "\n") H = .ok (.str (cutS line lo hi ++ "\n")) H := fun lo hi H => add_s (by have := lA lo hi; omega) H
      have x2 : ∀ lo hi lo2 hi2 H, bAdd (.str (cutS line lo hi ++ "\n")) (.str (cutS line lo2 hi2)) H = .ok (.str (cutS line lo hi ++ "\n" ++ cutS line lo2 hi2)) H := fun lo hi lo2 hi2 H => add_s (by rw [app_len]; have := lA lo hi; have := lA lo2 hi2; omega) H
      refine ends_ifT (by rw [eqT rfl, decide_eq_true w2]) (set2 (y := cutS line none (some (a : Int)) ++ "\n" ++ cutS line (some (a : Int)) none) (g := g3 ++ [.lst (ws.map W.str)]) ?_ (then_i ?_))
      · have fs : ∀ (y : Str) (H : MH), fin H (.ok (.str y) H) = .ok (.str y) H := fun y H => fin_self (.str _)
        simp [-List.map_map, sl, x1, x2, fs]
      · refine fb _ (bad_nl ?_) (by rw [app_len, app_len]; have := lA none (some (a : Int)); have := lA (some (a : Int)) none; omega)
        rw [tl_cps, K03.app_cps, K03.app_cps]
        have : ("\n" : Str).cps.toList = [10] := by decide +kernel
        rw [this]
        simp
    refine ends_ifF (by rw [eqT rfl, decide_eq_false w2]) ?_
    have ll2 : bLen [.ref h.length] (g3 ++ [Ob.lst (ws.map W.str)]) = .ok (.int (ws.length : Int)) (g3 ++ [Ob.lst (ws.map W.str)]) := by
      rw [← B9.len]
      simp [bLen, lenW, seqAt]
    have gt : ∀ (x y : Int) (G : MH), bGt (.int x) (.int y) G = .ok (.bl (decide (y < x))) G := fun x y G => rfl
    by_cases w3 : (wy : Int) = 3 ∧ 1 < ws.length
    · refine ends_ifT ?_ (set2 (y := Txt.replaceN line " " "  " 1) (repN_ok (by omega) rfl (by rw [← hline]; exact sp_in (by omega)) _) (then_i ?_))
      · rw [ev_tand, eqT rfl, decide_eq_true w3.1]
        have : (1 : Int) < (ws.length : Int) := by omega
        simp [-List.map_map, ll2, gt, this]
      · have r2 := rep_two (x := line) (by rw [← hline]; exact sp_in (by omega))
        exact fb _ r2.1 (by rw [r2.2]; omega)
    · refine ends_ifF ?_ (e_nx.mpr (then_i ?_))
      · rw [ev_tand, eqT rfl]
        by_cases w3' : (wy : Int) = 3
        · have : ¬ (1 : Int) < (ws.length : Int) := fun z => w3 ⟨w3', by omega⟩
          rw [decide_eq_true w3']
          simp [-List.map_map, ll2, gt, this]
        · rw [decide_eq_false w3']
          rfl
      · exact fin_ true line du.1 (fun _ => sg) (by omega)
end
end K03
/-! K03_n: words right. -/
noncomputable section
namespace K03
open PySem PySem.NumText L2 PM Bag Wb
section
variable {b N : Nat} {h G g1 : MH} {x : Str}
theorem split_no {w : W} (i : bIsi [w, .ty "str"] G = .ok (.bl false) G) : owa m_split_words [w] G = .ok .non G := by
  generalize hr_ : owa m_split_words _ _ = r_
  apply owa_eq hr_
  clear hr_
  have f : fin G (.ok .non G) = .ok .non G := fin_self .non
  refine ends_seq ?_
  simp [-ev_for, -ev_lc, -ev_dc, i, e_rt, fn_rt, ownA, f]
theorem ne_refS {ss ts : List Str} {i : Nat} {g : MH} (e : lstAt g i = some (ss.map W.str)) (c1 : ∀ s ∈ ss, Cp s) (c2 : ∀ s ∈ ts, Cp s) : bNe (.ref i) (.vl (ts.map W.str)) g = .ok (.bl (!decide (ss = ts))) g := by
  have d1 : dataW g 20 (.ref i) = some (.list (ss.map Py.dat)) := by
    have := Py.mapO g 19 (by decide) ss
    have e2 : (ss.map Py.enc) = ss.map W.str := rfl
    rw [e2] at this
    have e3 : dataW g 20 (.ref i) = (PM.mapO (dataW g 19) (ss.map W.str)).map .list := by simp [dataW, e]
    rw [e3, this]
    rfl
  have d2 : dataW g 20 (.vl (ts.map W.str)) = some (.list (ts.map Py.dat)) := Py.data (α := List Str) g 20 ts (by decide)
  have s1 := Py.shaped (α := List Str) ss c1 (by decide)
  have s2 := Py.shaped (α := List Str) ts c2 (by decide)
  have z : bNe (.ref i) (.vl (ts.map W.str)) g = _ := ne_of_data (x := .ref i) (y := .vl (ts.map W.str)) rfl d1 d2 s1 s2
  rw [z]
  congr 3
  rw [Bool.eq_iff_iff, decide_eq_true_iff]
  exact Py.eqv (α := List Str) ss ts
/-- lists of words are shown alike, new or frozen -/
theorem sh_two {ws : List Str} {i : Nat} {g : MH} (e : g[i]? = some (.lst (ws.map W.str))) (l : ws.length ≤ 5) (hw : ∀ w ∈ ws, WdS w) : ∃ s, bReprE [.ref i] g = .ok (.str s) g ∧ bReprE [.vl (ws.map W.str)] g = .ok (.str s) g := by
  obtain ⟨ds, ld, rs, es⟩ := ShE.all (G := g) (K := 30) (D := 0) (xs := ws.map W.str) fun w hw' => by
    obtain ⟨s, hs, rfl⟩ := List.mem_map.mp hw'
    exact .str (hw s hs).2.1 (by have := (hw s hs).2.2; omega)
  have rp := Rq.list rs
  have m := es 19 (by omega)
  have lds : ds.length ≤ 5 := by rw [ld, List.length_map]; exact l
  refine ⟨_, shownE rp ?_ (by omega) (by omega), shownE rp ?_ (by omega) (by omega)⟩
  · simp only [dataE, e, m, Option.map_some]
  · simp only [dataE, m, Option.map_some]
/-- ab ab .. -/
def abS (k : Nat) : Str := ⟨(List.replicate k ("ab " : Str).cps.toList).flatten.toArray⟩
theorem ab_cps : ("ab " : Str).cps.toList = [97, 98, 32] := by decide +kernel
theorem abS_cps (k : Nat) : (abS k).cps.toList = (List.replicate k [97, 98, 32]).flatten := by
  unfold abS
  rw [ab_cps]
theorem abS_len (k : Nat) : (abS k).length = 3 * k := by
  rw [len_cps, abS_cps]
  induction k with
  | zero => rfl
  | succ k ih => rw [List.replicate_succ, List.flatten_cons, List.length_append, ih]; simp; omega
theorem ab_join (k : Nat) : Txt.join " " (List.replicate k ("ab" : Str) ++ [("a" : Str)]) = abS k ++ "a" := by
  rw [TL.join_eq]
  have e2 : ("ab" : Str).cps.toList = [97, 98] := by decide +kernel
  have e1 : (" " : Str).cps.toList = [32] := sp_tl
  induction k with
  | zero => exact str_ext (by rw [K03.app_cps, abS_cps]; rfl)
  | succ k ih =>
    have : ∀ (l : List Str), l ≠ [] → Str.join " " ("ab" :: l) = "ab" ++ " " ++ Str.join " " l := fun l hl => by
      cases l with
      | nil => exact absurd rfl hl
      | cons c l => rfl
    rw [List.replicate_succ, List.cons_append, this _ (by simp), ih]
    refine str_ext ?_
    rw [K03.app_cps, K03.app_cps, K03.app_cps, K03.app_cps, abS_cps, abS_cps, e1, e2, List.replicate_succ, List.flatten_cons]
    simp
theorem ab_bad {k : Nat} (h : 1 ≤ k) : badT (abS k) = true := by
  obtain ⟨j, rfl⟩ : ∃ j, k = j + 1 := ⟨k - 1, by omega⟩
  refine bad_tail (x := (List.replicate j [97, 98, 32]).flatten ++ [97, 98]) ?_
  rw [tl_cps, abS_cps, List.replicate_succ', List.flatten_append]
  simp
theorem ab_wd (k : Nat) : ∀ w ∈ List.replicate k ("ab" : Str) ++ [("a" : Str)], Wd w ∧ Cp w := fun w hw => by
  have : w = "ab" ∨ w = "a" := by
    rcases List.mem_append.mp hw with z | z
    · exact .inl (List.eq_of_mem_replicate z)
    · exact .inr (List.mem_singleton.mp z)
  rcases this with rfl | rfl
  · exact ⟨by unfold Wd; decide +kernel, by unfold Cp; decide +kernel⟩
  · exact ⟨by unfold Wd; decide +kernel, by unfold Cp; decide +kernel⟩
theorem ab_split (k : Nat) : Txt.split (abS k ++ "a") " " = List.replicate k ("ab" : Str) ++ [("a" : Str)] ∧ badT (abS k ++ "a") = false := by
  rw [← ab_join]
  exact ⟨split_good (by simp) fun w hw => (ab_wd k w hw).1, (due_good (by simp) fun w hw => (ab_wd k w hw).1).1⟩
abbrev found5 : EM := (eIf (tTru (e2 bEq (eVar 4) (eC (.int 1)))) (eCallK 0 1 (fun ws zs => (owa m_split_words) (gPerm [0] ws zs)) aNil (aCons (eVar 2) aNil)) (eCall (owa m_split_words) (aCons (eVar 2) aNil)))
theorem found_ok {σ : MS} {k : Int} (h2 : σ[2]? = some (some (.str x))) (h4 : σ[4]? = some (some (.int k))) (hl : x.length ≤ 100000) (G : MH) : found5 σ G = if badT x = true then .ok .non G else .ok (.ref G.length) (G ++ [.lst ((Txt.split x " ").map W.str)]) := by
  rw [← split_ok hl G]
  have v : (aCons (eVar 2) aNil) σ G = .ok [.str x] G := by simp [h2]
  have t : (tTru (e2 bEq (eVar 4) (eC (.int 1)))) σ G = .ok (decide (k = 1)) G := eqT h4 G
  show (((tTru (e2 bEq (eVar 4) (eC (.int 1)))) σ G).bind _) = _
  rw [t]
  simp only [R.bind_ok]
  by_cases e : k = 1
  · rw [decide_eq_true e, if_pos rfl]
    show (((aNil) σ G).bind fun ws h1 => ((aCons (eVar 2) aNil) σ h1).bind _) = _
    have : aNil σ G = .ok [] G := rfl
    rw [this]
    simp only [R.bind_ok]
    rw [v]
    rfl
  · rw [decide_eq_false e]
    show (((aCons (eVar 2) aNil) σ G).bind _) = _
    rw [v]
    rfl
abbrev lapB : SM := (sSeq (sSet 5 found5)
    (sSeq (sIf (tTru (e2 bNe (eCall bReprE (aCons (eVar 5) aNil)) (eCall bReprE (aCons (eVar 3) aNil)))) (sRet (eC (.bl false))) sNext)
    (sIf (tTru (eCall bIsi (aCons (eVar 5) (aCons (eC (.ty "list")) aNil)))) (sExpr (eBM "list" bApp (eVar 5) (aCons (eC (.str "more")) aNil))) sNext)))
theorem lap_ok (hx : Ln x) (G : MH) (k : Int) (x0 x1 x5 x6 x7 x8 : Option W) {F : En}
    (hE : ∀ x5 l, F.nx [x0, x1, some (.str x), some (dueW x), some (.int k), x5, x6, x7, x8] (G ++ l)) :
    (lapB [x0, x1, some (.str x), some (dueW x), some (.int k), x5, x6, x7, x8] G).ends F := by
  have fo := found_ok (σ := [x0, x1, some (.str x), some (dueW x), some (.int k), x5, x6, x7, x8]) rfl rfl (x := x) (by have := hx.1; omega) G
  cases e : badT x with
  | true =>
    rw [e, if_pos rfl] at fo
    refine ends_seq (ends_set fo (then_i ?_))
    simp only [List.set_cons_zero, List.set_cons_succ]
    have dn : dueW x = .non := due_bad e
    have := hE (some .non) []
    rw [dn, List.append_nil] at this
    rw [dn]
    obtain ⟨s, es⟩ := (ShE.non (G := G)).repr (by omega) (by omega)
    have ns := ne_s s s G
    rw [beq_self_eq_true] at ns
    refine ends_seq (ends_ifF (by simp [es, ns]) (e_nx.mpr (then_i ?_)))
    have ii : bIsi [.non, .ty "list"] G = .ok (.bl false) G := rfl
    exact ends_ifF (by simp [ii]) (e_nx.mpr this)
  | false =>
    rw [e] at fo
    obtain ⟨ws, ew, l5, hw⟩ := hx.2 e
    rw [ew] at fo
    refine ends_seq (ends_set fo (then_i ?_))
    simp only [List.set_cons_zero, List.set_cons_succ]
    have dn : dueW x = .vl (ws.map W.str) := by unfold dueW; rw [e, ew]; rfl
    have := hE (some (.ref G.length)) [.lst ((ws.map W.str) ++ [.str "more"])]
    rw [dn] at this
    rw [dn]
    obtain ⟨s, es, es'⟩ := sh_two (g := G ++ [Ob.lst (ws.map W.str)]) (i := G.length) (by simp) l5 hw
    have ns := ne_s s s (G ++ [Ob.lst (ws.map W.str)])
    rw [beq_self_eq_true] at ns
    refine ends_seq (ends_ifF (by simp [-List.map_map, es, es', ns]) (e_nx.mpr (then_i ?_)))
    have ii : bIsi [.ref G.length, .ty "list"] (G ++ [Ob.lst (ws.map W.str)]) = .ok (.bl true) (G ++ [Ob.lst (ws.map W.str)]) := by
      simp [bIsi, tyB]
      rfl
    refine ends_ifT (by simp [-List.map_map, ii]) ?_
    have bt : bty (.ref G.length) (G ++ [Ob.lst (ws.map W.str)]) = some "list" := by simp [bty]
    have lz : ws.length < sizeLine := by rw [line_eq]; omega
    simp [-List.map_map, bt, bApp, lz, e_nx]
    exact this
end
end K03
/-! K03_o: words right, the whole. -/
noncomputable section
namespace K03
open PySem PySem.NumText L2 PM Bag Wb
section
variable {b N : Nat} {h G g1 : MH} {x : Str}
/-- things that have no list of words -/
def T8 : List W := [.non, .bl true, .int 3, .vl [.str "a"], .tup [.str "a"], .vd [(.inr "a", .int 1)], .str "", .str " ", .str "  ", .str "\n", .str "a\nb"]
theorem no_T8 : ∀ w ∈ T8, ∀ G, owa m_split_words [w] G = .ok .non G := fun w hw G => by
  have bs : ∀ y : Str, badT y = true → y.length ≤ 100000 → owa m_split_words [.str y] G = .ok .non G := fun y hb hl => by rw [split_ok hl, if_pos hb]
  simp only [T8, List.mem_cons, List.not_mem_nil, or_false] at hw
  rcases hw with rfl | rfl | rfl | rfl | rfl | rfl | rfl | rfl | rfl | rfl | rfl
  · exact split_no rfl
  · exact split_no rfl
  · exact split_no rfl
  · exact split_no rfl
  · exact split_no rfl
  · exact split_no rfl
  · exact bs _ (by decide +kernel) (by decide)
  · exact bs _ (by decide +kernel) (by decide)
  · exact bs _ (by decide +kernel) (by decide)
  · exact bs _ (by decide +kernel) (by decide)
  · exact bs _ (by decide +kernel) (by decide)
theorem cls_T8 : ∀ x ∈ T8, ∀ n, Cls n x := fun x hx n => by
  simp only [T8, List.mem_cons, List.not_mem_nil, or_false] at hx
  rcases hx with rfl | rfl | rfl | rfl | rfl | rfl | rfl | rfl | rfl | rfl | rfl <;> simp
theorem set8_ok (σ : MS) (G : MH) : eFz (eLst (aCons (eC .non) (aCons (eC (.bl true)) (aCons (eC (.int 3)) (aCons (eFz (eLst (aCons (eC (.str "a")) aNil))) (aCons (eTup (aCons (eC (.str "a")) aNil)) (aCons (eFz (eDict [((eC (.str "a")), (eC (.int 1)))])) (aCons (eC (.str "")) (aCons (eC (.str " ")) (aCons (eC (.str "  ")) (aCons (eC (.str "\n")) (aCons (eC (.str "a\nb")) aNil)))))))))))) σ G = .ok (.vl T8) G := by
  have z1 : 1 ≤ sizeLine := by rw [line_eq]; omega
  have z9 : 11 ≤ sizeLine := by rw [line_eq]; omega
  have f1 : ∀ H : MH, fin H (.ok (.ref H.length) (H ++ [.lst [.str "a"]])) = .ok (.vl [.str "a"]) H := fun H => fin_l0 (by simp)
  have f2 : ∀ H : MH, fin H (eDict [((eC (.str "a")), (eC (.int 1)))] σ H) = .ok (.vd [(.inr "a", .int 1)]) H := fun H => by
    have e : eDict [((eC (.str "a")), (eC (.int 1)))] σ H = .ok (.ref H.length) (H ++ [.dct [(.inr "a", .int 1)]]) := by
      simp [eDict, prs, keysOf, PM.keyOf, mergeM, putM]
    rw [e]
    exact fin_d0 (by simp)
  have f3 : fin G (.ok (.ref G.length) (G ++ [.lst [.non, .bl true, .int 3, .vl [.str "a"], .tup [.str "a"], .vd [(.inr "a", .int 1)], .str "", .str " ", .str "  ", .str "\n", .str "a\nb"]])) = .ok (.vl T8) G := fin_l0 (fun x hx => cls_T8 x hx _)
  refine fz_e ?_ f3
  simp [-ev_for, -ev_lc, -ev_dc, z1, z9, f1, f2]
abbrev lc9 : EM := eLc (iVal (eVar 7)) [8] (gN 8) (tTru (e2 bNot (eCall (owa m_split_words) (aCons (eVar 8) aNil)) (eC .non))) (eVar 8)
theorem ret8_ok (x0 x1 x2 x3 x4 x5 x6 x8 : Option W) (G : MH) : e2 bEq (eFz lc9) (eFz (eLst aNil)) [x0, x1, x2, x3, x4, x5, x6, some (.vl T8), x8] G = .ok (.bl true) G := by
  have f0 : ∀ G : MH, fin G (.ok (.ref G.length) (G ++ [Ob.lst []])) = .ok (.vl []) G := fun G => fin_l0 fun _ z => nomatch z
  have z0 : (0 : Nat) ≤ sizeLine := Nat.zero_le _
  have a : eFz lc9 [x0, x1, x2, x3, x4, x5, x6, some (.vl T8), x8] G = .ok (.vl []) G := by
    show fin G (eLc _ _ _ _ _ _ _) = _
    generalize hr : fin _ (eLc _ _ _ _ _ _ _) = r
    have nn : ∀ G, bNot .non .non G = .ok (.bl false) G := fun _ => rfl
    have := lcF hr T8 (fun x => x) (fun _ => false) (fun x => x) (mi := itT T8) (by simp) rfl (fun i g => by simp [itT]) (by rw [line_eq]; decide) (fun x hx acc => ⟨_, rfl, by
      have bx := no_T8 x hx (G ++ [.lst acc])
      simp [wipeM, bx, nn], fun z => nomatch z⟩) (fun _ _ z => nomatch z)
    rw [this]
    simp
  have c : eFz (eLst aNil) [x0, x1, x2, x3, x4, x5, x6, some (.vl T8), x8] G = .ok (.vl []) G := by
    simp [-ev_lc, z0, f0]
  simp only [e2, a, c, R.bind_ok, eq_nil]
theorem repl_flat : ∀ k : Nat, (List.replicate k [W.str "ab"]).flatten = (List.replicate k ("ab" : Str)).map W.str
  | 0 => rfl
  | k + 1 => by rw [List.replicate_succ, List.flatten_cons, repl_flat k]; rfl
theorem ends_ifG {σ : MS} {G g : MH} {t : TM} {m n : SM} {F : En} (q : t σ G = .ok false g) (c : (n σ g).ends F) : (sIf t m n σ G).ends F := by
  rw [ev_sif, q]
  exact c
theorem words_ok (B : Bx b N h) (hN : N ≤ 10000) : ∃ h', fz m__law_words_right [.ref b] h = .ok (.bl true) h' ∧ Bu b (N + 300) h h' := by
  generalize hr_ : fz m__law_words_right _ _ = r_
  apply fz_eq hr_
  clear hr_
  refine ends_seq ?_
  rw [ev_for]
  have it : ∀ σ, iRange rng1 (aCons (eC (.int 5)) aNil) σ h = .ok (itR 0 5) h := fun σ => rng_nat (n := 5) (by omega) h
  rw [it]
  simp only [R.st_ok]
  refine ends_rng (n := 5) (fun i σ g => ∃ x1 x2 x3 x4 x5 g1 l, σ = [some (.ref b), x1, x2, x3, x4, x5, none, none, none] ∧ g = g1 ++ l ∧ Bu b (N + 50 * i) h g1) ⟨_, _, _, _, _, h, [], rfl, by simp, Bu.refl (by simpa using B)⟩ (fun i σ g hi ⟨x1, x2, x3, x4, x5, g1, l, e1, eg, Bi⟩ => ?_) (fun σ g ⟨x1, x2, x3, x4, x5, g1, l, e1, eg, Bi⟩ => ?_)
  · subst e1 eg
    refine ⟨_, rfl, ?_⟩
    simp only [List.set_cons_zero, List.set_cons_succ]
    obtain ⟨x, h2, ex, C2, hx⟩ := line_ok (Bi.bx.app l) (by omega)
    obtain ⟨g2, rfl, B2⟩ := C2.cut Bi.bx.lt
    refine ends_seq ?_
    simp [-ev_for, -ev_lc, -ev_dc, -List.map_map, -exists_and_left, -exists_and_right, ex, gUn, lstW, e_nx]
    refine then_i ?_
    rw [ev_for]
    have it2 : ∀ σ g, iRange rng1 (aCons (eC (.int 2)) aNil) σ g = .ok (itR 0 2) g := fun σ g => rng_nat (n := 2) (by omega) g
    rw [it2]
    simp only [R.st_ok]
    refine ends_rng (n := 2) (fun j σ g => ∃ x4 x5 l, σ = [some (.ref b), some (.int (0 + (i : Int))), some (.str x), some (dueW x), x4, x5, none, none, none] ∧ g = g2 ++ l) ⟨x4, x5, l, by simp, rfl⟩ (fun j σ g hj ⟨x4, x5, l, e1, eg⟩ => ?_) (fun σ g ⟨x4, x5, l, e1, eg⟩ => ?_)
    · subst e1 eg
      refine ⟨_, rfl, ?_⟩
      simp only [List.set_cons_zero, List.set_cons_succ]
      exact lap_ok hx _ _ _ _ _ _ _ _ fun x5 l2 => ⟨_, _, l ++ l2, rfl, by rw [List.append_assoc]⟩
    · subst e1 eg
      exact ⟨_, _, _, _, _, g2, l, rfl, rfl, (Bi.trans B2).mono (by omega)⟩
  · subst e1 eg
    refine then_i ?_
    obtain ⟨r, h2, t2, r9, C2⟩ := draw' (Bi.bx.app l) (by omega) (m := 1000) (by decide) (by decide)
    obtain ⟨g2, rfl, B2⟩ := C2.cut Bi.bx.lt
    have ad : ∀ (x y : Int) g, bAdd (.int x) (.int y) g = .ok (.int (x + y)) g := fun _ _ _ => rfl
    obtain ⟨k, hk⟩ : ∃ k : Nat, k = 300 + r := ⟨_, rfl⟩
    have kz : (300 + (r : Int)) = (k : Int) := by omega
    refine ends_seq (ends_set (w := .int (k : Int)) (g := g2 ++ l) (by simp [t2, ad, kz]) (then_i ?_))
    simp only [List.set_cons_zero, List.set_cons_succ]
    have B9 : Bu b (N + 300) h g2 := (Bi.trans B2).mono (by omega)
    generalize hG : g2 ++ l = G
    have mS : ∀ H, bMul (.str "ab ") (.int (k : Int)) H = .ok (.str (abS k)) H := fun H => by
      have l3 : ("ab " : Str).length = 3 := rfl
      show (@ite _ _ (Classical.propDecidable _) _ _) = _
      rw [if_pos ⟨by omega, by omega, by rw [l3, line_eq]; omega⟩]
      rfl
    have aS : ∀ H, bAdd (.str (abS k)) (.str "a") H = .ok (.str (abS k ++ "a")) H := fun H => add_s (by rw [abS_len]; show 3 * k + 1 ≤ _; omega) H
    have la : (abS k ++ "a").length ≤ 100000 := by rw [app_len, abS_len]; show 3 * k + 1 ≤ _; omega
    have sA : ∀ H, owa m_split_words [.str (abS k ++ "a")] H = .ok (.ref H.length) (H ++ [.lst ((List.replicate k ("ab" : Str) ++ [("a" : Str)]).map W.str)]) := fun H => by
      rw [split_ok la, (ab_split k).2, (ab_split k).1]
      rfl
    have sB : ∀ H, owa m_split_words [.str (abS k)] H = .ok .non H := fun H => by
      rw [split_ok (by rw [abS_len]; omega), if_pos (ab_bad (by omega))]
    obtain ⟨L, hL⟩ : ∃ L : List Str, L = List.replicate k ("ab" : Str) ++ [("a" : Str)] := ⟨_, rfl⟩
    rw [← hL] at sA
    have z1 : 1 ≤ sizeLine := by rw [line_eq]; omega
    have f1 : ∀ (y : Str) (H : MH), fin H (.ok (.ref H.length) (H ++ [.lst [.str y]])) = .ok (.vl [.str y]) H := fun y H => fin_l0 (by simp)
    have cl : ∀ (ss : List Str) n, ∀ w ∈ ss.map W.str, Cls n w := fun ss n w hw => by obtain ⟨s, _, rfl⟩ := List.mem_map.mp hw; exact .str _
    have mL : ∀ H : MH, fin H (bMul (.vl [.str "ab"]) (.int (k : Int)) H) = .ok (.vl ((List.replicate k ("ab" : Str)).map W.str)) H := fun H => by
      have e : bMul (.vl [.str "ab"]) (.int (k : Int)) H = .ok (.ref H.length) (H ++ [.lst ((List.replicate k ("ab" : Str)).map W.str)]) := by
        show (@ite _ _ (Classical.propDecidable _) _ _) = _
        rw [if_pos ⟨by omega, by omega, by show 1 * k ≤ _; rw [line_eq]; omega⟩]
        have : (List.replicate (k : Int).toNat [W.str "ab"]).flatten = (List.replicate k ("ab" : Str)).map W.str := by
          rw [Int.toNat_natCast]
          exact repl_flat k
        rw [this]
      rw [e]
      exact fin_l0 (cl _ _)
    have aL : ∀ H : MH, fin H (bAdd (.vl ((List.replicate k ("ab" : Str)).map W.str)) (.vl [.str "a"]) H) = .ok (.vl (L.map W.str)) H := fun H => by
      have e : bAdd (.vl ((List.replicate k ("ab" : Str)).map W.str)) (.vl [.str "a"]) H = .ok (.ref H.length) (H ++ [.lst (L.map W.str)]) := by
        show (if ((List.replicate k ("ab" : Str)).map W.str).length + 1 ≤ sizeLine then _ else _) = _
        rw [if_pos (by rw [List.length_map, List.length_replicate, line_eq]; omega), hL, List.map_append]
        rfl
      rw [e]
      exact fin_l0 (cl _ _)
    have cL : ∀ s ∈ L, Cp s := fun s hs => (ab_wd k s (hL ▸ hs)).2
    have nL : ∀ H : MH, bNe (.ref H.length) (.vl (L.map W.str)) (H ++ [.lst (L.map W.str)]) = .ok (.bl false) (H ++ [.lst (L.map W.str)]) := fun H => by
      have := ne_refS (ss := L) (ts := L) (i := H.length) (g := H ++ [.lst (L.map W.str)]) (by simp) cL cL
      rw [this]
      simp
    have nn : ∀ G, bNot .non .non G = .ok (.bl false) G := fun _ => rfl
    refine ends_seq (ends_ifG (g := G ++ [.lst (L.map W.str)]) ?_ (e_nx.mpr (then_i ?_)))
    · rw [ev_tor]
      have t1 : (tTru (e2 bNe (eCall (owa m_split_words) (aCons (e2 bAdd (e2 bMul (eC (.str "ab ")) (eVar 6)) (eC (.str "a"))) aNil)) (eFz (e2 bAdd (eFz (e2 bMul (eFz (eLst (aCons (eC (.str "ab")) aNil))) (eVar 6))) (eFz (eLst (aCons (eC (.str "a")) aNil))))))) [some (.ref b), x1, x2, x3, x4, x5, some (.int (k : Int)), none, none] G = .ok false (G ++ [.lst (L.map W.str)]) := by
        simp [-ev_for, -ev_lc, -ev_dc, -List.map_map, -List.map_append, -List.map_replicate, mS, aS, sA, z1, f1, mL, aL, nL]
      have t2 : (tTru (e2 bNot (eCall (owa m_split_words) (aCons (e2 bMul (eC (.str "ab ")) (eVar 6)) aNil)) (eC .non))) [some (.ref b), x1, x2, x3, x4, x5, some (.int (k : Int)), none, none] (G ++ [.lst (L.map W.str)]) = .ok false (G ++ [.lst (L.map W.str)]) := by
        simp [-ev_for, -ev_lc, -ev_dc, -List.map_map, mS, sB, nn]
      rw [t1]
      simp only [R.bind_ok, Bool.false_eq_true, if_false]
      rw [t2]
    · refine ends_seq (ends_set (set8_ok _ _) (then_i ?_))
      simp only [List.set_cons_zero, List.set_cons_succ]
      have rr := ret8_ok (some (.ref b)) x1 x2 x3 x4 x5 (some (.int (k : Int))) none (G ++ [.lst (L.map W.str)])
      have ft : fin h (.ok (.bl true) (G ++ [.lst (L.map W.str)])) = .ok (.bl true) g2 := by
        rw [← hG, List.append_assoc]
        exact fin_cls B9.stp _ (w := .bl true) (.bl _)
      show ((e2 bEq _ _ _ _).st _ _).ends _
      rw [rr]
      simp only [R.st_ok]
      rw [e_rt, fn_rt]
      exact ⟨g2, ft, B9⟩
end
end K03
/-! K03_p: the law holds. -/
noncomputable section
namespace K03
open PySem PySem.NumText L2 PM Bag Wb
theorem body_pk {g : MH} {k : Nat} {zs : List Int} (hk : k < 100) (e0 : g[0]? = some (.ro (zs.map W.int))) (x2 : Option W) {F : En}
    (hE : ∀ x2 g', g'[0]? = some (.ro (zs.map W.int)) → F.nx [some (.ref 0), some (.int k), x2] g') :
    ((sSeq (sSet 2 (eCall (ow m__law_box) (aCons (eCall (fz m__law_cell) (aCons (eVar 0) (aCons (eVar 1) aNil))) aNil)))
    (sIf (tOrM (tNotM (tTru (eCall (fz m__law_integers_right) (aCons (eVar 2) aNil)))) (tNotM (tTru (eCall (fz m__law_words_right) (aCons (eVar 2) aNil))))) (sRet (eC (.bl false))) sNext)) [some (.ref 0), some (.int k), x2] g).ends F := by
  have el : lstAt g 0 = some (zs.map W.int) := by unfold lstAt; rw [e0]
  obtain ⟨c, s1⟩ := cellG_ok 15487289 191 (k := k) el (by decide) (by omega) (by omega)
  obtain ⟨o, s2, B0⟩ := bagG_ok c g
  have g0 : (0 : Nat) ≠ g.length := by have := (List.getElem?_eq_some_iff.mp e0).1; omega
  obtain ⟨h1, t1, B1⟩ := integers_ok B0 (by omega)
  obtain ⟨h2, t2, B2⟩ := words_ok B1.bx (by omega)
  have e2 : h2[0]? = some (.ro (zs.map W.int)) := (B1.trans B2).get g0 (get_l e0)
  refine ends_seq ?_
  simp [-ev_for, -ev_lc, -ev_dc, -List.map_map, -exists_and_left, -exists_and_right, e_nx, e_rt, s1, s2]
  refine then_i ?_
  have t1' : fz m__law_integers_right [.ref g.length] (g ++ [o]) = _ := t1
  simp [-ev_for, -ev_lc, -ev_dc, -List.map_map, -exists_and_left, -exists_and_right, e_nx, e_rt, t1', t2]
  exact hE _ h2 e2
theorem holds (ns : List Int) (hn : ns.length ≤ 63) (hb : ∀ z ∈ ns, Builtin.Int.intBits z ≤ 1048576) : ∃ g, m_law [.ref 0] (script0 ns) = .ok (.bl true) g := by
  have e0 : (script0 ns)[0]? = some (.ro (ns.map W.int)) := rfl
  have ln : ∀ g, g[0]? = some (.ro (ns.map W.int)) → bLen [.ref 0] g = .ok (.int ns.length) g := fun g e => by
    rw [len_l (by unfold lstAt; rw [e]), List.length_map]
  unfold m_law
  generalize hh : script0 ns = h0 at e0
  generalize hr : mkF 1 3 _ [.ref 0] h0 = r
  apply fn_eq hr
  clear hr
  simp only [List.map_cons, List.map_nil, List.replicate, List.cons_append, List.nil_append]
  refine ends_seq ?_
  rw [ev_for]
  simp [-ev_for, -ev_lc, -ev_dc, -List.map_map, -exists_and_left, -exists_and_right, ln h0 e0]
  generalize hk : (if 2 < (if (ns.length : Int) < (8 : Int) then (ns.length : Int) else (8 : Int)) then (if (ns.length : Int) < (8 : Int) then (ns.length : Int) else (8 : Int)) else 2) = k
  have k6 : 2 ≤ k ∧ k ≤ 8 := by
    rw [← hk]
    repeat' split
    all_goals omega
  rw [rng1_i (by omega) (by omega)]
  simp only [R.st_ok]
  refine ends_rng (n := k.toNat) (fun i σ h => (∃ x1 x2, σ = [some (.ref 0), x1, x2]) ∧ h[0]? = some (.ro (ns.map W.int))) ⟨⟨_, _, rfl⟩, e0⟩ (fun i σ h hi ⟨⟨x1, x2, e1⟩, e2⟩ => ?_) (fun σ h ⟨⟨x1, x2, e1⟩, e2⟩ => ?_) (by simp [itR]; try omega)
  · subst e1
    refine ⟨_, rfl, ?_⟩
    simp only [Int.zero_add, List.set_cons_zero, List.set_cons_succ]
    exact body_pk (by omega) e2 _ fun z2 g' e3 => ⟨⟨_, _, rfl⟩, e3⟩
  · subst e1
    refine then_i ?_
    refine ends_ret ?_
    simp [-ev_for, -ev_lc, -ev_dc, -List.map_map, -exists_and_left, -exists_and_right, e_rt, fn_rt]
end K03
namespace K03
open PySem PySem.Spec L2 PM
open PyProof.Rows hiding St
open K03X
abbrev N__law_box : List Str := ["_law_cell_here"]
abbrev ps__law_box : List Str := ["_law_cell_here"]
theorem sc__law_box : FnScope N__law_box ps__law_box (defScope s__law_box) := ⟨rfl, rfl, rfl, by decide +kernel, rfl, by decide +kernel, by decide +kernel⟩
abbrev A__law_box (K : PySem.W.Frag) : Addr := (adG "_law_box") K
abbrev FD__law_box (K : PySem.W.Frag) (fd : FuncData) : Prop := FunD K "_law_box" "_law_box" (defArgs s__law_box) (defBody s__law_box) (defScope s__law_box) [] [] (A__law_box K) fd
abbrev N__law_cell : List Str := ["_law_script", "_law_k"]
abbrev ps__law_cell : List Str := ["_law_script", "_law_k"]
theorem sc__law_cell : FnScope N__law_cell ps__law_cell (defScope s__law_cell) := ⟨rfl, rfl, rfl, by decide +kernel, rfl, by decide +kernel, by decide +kernel⟩
abbrev A__law_cell (K : PySem.W.Frag) : Addr := (adG "_law_cell") K
abbrev FD__law_cell (K : PySem.W.Frag) (fd : FuncData) : Prop := FunD K "_law_cell" "_law_cell" (defArgs s__law_cell) (defBody s__law_cell) (defScope s__law_cell) [] [] (A__law_cell K) fd
abbrev N__law_take : List Str := ["_law_box_here", "_law_many", "_law_digit", "_law_mixed"]
abbrev ps__law_take : List Str := ["_law_box_here", "_law_many"]
theorem sc__law_take : FnScope N__law_take ps__law_take (defScope s__law_take) := ⟨rfl, rfl, rfl, by decide +kernel, rfl, by decide +kernel, by decide +kernel⟩
abbrev A__law_take (K : PySem.W.Frag) : Addr := (adG "_law_take") K
abbrev FD__law_take (K : PySem.W.Frag) (fd : FuncData) : Prop := FunD K "_law_take" "_law_take" (defArgs s__law_take) (defBody s__law_take) (defScope s__law_take) [] [] (A__law_take K) fd
abbrev N__law_figures : List Str := ["_law_box_here", "_law_many", "_law_found", "_law_k", "_law_at", "_law_way", "_law_some"]
abbrev ps__law_figures : List Str := ["_law_box_here"]
theorem sc__law_figures : FnScope N__law_figures ps__law_figures (defScope s__law_figures) := ⟨rfl, rfl, rfl, by decide +kernel, rfl, by decide +kernel, by decide +kernel⟩
abbrev A__law_figures (K : PySem.W.Frag) : Addr := (adG "_law_figures") K
abbrev FD__law_figures (K : PySem.W.Frag) (fd : FuncData) : Prop := FunD K "_law_figures" "_law_figures" (defArgs s__law_figures) (defBody s__law_figures) (defScope s__law_figures) [] [] (A__law_figures K) fd
abbrev N__law_number : List Str := ["_law_word", "_law_digits", "_law_sign", "_law_number_here"]
abbrev ps__law_number : List Str := ["_law_word"]
theorem sc__law_number : FnScope N__law_number ps__law_number (defScope s__law_number) := ⟨rfl, rfl, rfl, by decide +kernel, rfl, by decide +kernel, by decide +kernel⟩
abbrev A__law_number (K : PySem.W.Frag) : Addr := (adG "_law_number") K
abbrev FD__law_number (K : PySem.W.Frag) (fd : FuncData) : Prop := FunD K "_law_number" "_law_number" (defArgs s__law_number) (defBody s__law_number) (defScope s__law_number) [] [] (A__law_number K) fd
abbrev N__law_within : List Str := ["_law_number_here", "_law_least", "_law_greatest"]
abbrev ps__law_within : List Str := ["_law_number_here", "_law_least", "_law_greatest"]
theorem sc__law_within : FnScope N__law_within ps__law_within (defScope s__law_within) := ⟨rfl, rfl, rfl, by decide +kernel, rfl, by decide +kernel, by decide +kernel⟩
abbrev A__law_within (K : PySem.W.Frag) : Addr := (adG "_law_within") K
abbrev FD__law_within (K : PySem.W.Frag) (fd : FuncData) : Prop := FunD K "_law_within" "_law_within" (defArgs s__law_within) (defBody s__law_within) (defScope s__law_within) [] [] (A__law_within K) fd
abbrev N_parse_integer : List Str := ["text", "low", "high", "digit", "number"]
abbrev ps_parse_integer : List Str := ["text", "low", "high"]
theorem sc_parse_integer : FnScope N_parse_integer ps_parse_integer (defScope s_parse_integer) := ⟨rfl, rfl, rfl, by decide +kernel, rfl, by decide +kernel, by decide +kernel⟩
abbrev A_parse_integer (K : PySem.W.Frag) : Addr := (adG "parse_integer") K
abbrev FD_parse_integer (K : PySem.W.Frag) (fd : FuncData) : Prop := FunD K "parse_integer" "parse_integer" (defArgs s_parse_integer) (defBody s_parse_integer) (defScope s_parse_integer) [] [("low", .int 0), ("high", .int 999999)] (A_parse_integer K) fd
abbrev N__law_integers_right : List Str := ["_law_box_here", "_law_turn", "_law_word", "_law_number_here", "_law_near", "_law_least", "_law_greatest", "_law_some", "_law_thing"]
abbrev ps__law_integers_right : List Str := ["_law_box_here"]
theorem sc__law_integers_right : FnScope N__law_integers_right ps__law_integers_right (defScope s__law_integers_right) := ⟨rfl, rfl, rfl, by decide +kernel, rfl, by decide +kernel, by decide +kernel⟩
abbrev A__law_integers_right (K : PySem.W.Frag) : Addr := (adG "_law_integers_right") K
abbrev FD__law_integers_right (K : PySem.W.Frag) (fd : FuncData) : Prop := FunD K "_law_integers_right" "_law_integers_right" (defArgs s__law_integers_right) (defBody s__law_integers_right) (defScope s__law_integers_right) [] [] (A__law_integers_right K) fd
abbrev N__law_line : List Str := ["_law_box_here", "_law_words", "_law_line_here", "_law_good", "_law_k", "_law_signs", "_law_part", "_law_turn", "_law_way", "_law_at"]
abbrev ps__law_line : List Str := ["_law_box_here"]
theorem sc__law_line : FnScope N__law_line ps__law_line (defScope s__law_line) := ⟨rfl, rfl, rfl, by decide +kernel, rfl, by decide +kernel, by decide +kernel⟩
abbrev A__law_line (K : PySem.W.Frag) : Addr := (adG "_law_line") K
abbrev FD__law_line (K : PySem.W.Frag) (fd : FuncData) : Prop := FunD K "_law_line" "_law_line" (defArgs s__law_line) (defBody s__law_line) (defScope s__law_line) [] [] (A__law_line K) fd
abbrev N_split_words : List Str := ["text", "words", "word"]
abbrev ps_split_words : List Str := ["text"]
theorem sc_split_words : FnScope N_split_words ps_split_words (defScope s_split_words) := ⟨rfl, rfl, rfl, by decide +kernel, rfl, by decide +kernel, by decide +kernel⟩
abbrev A_split_words (K : PySem.W.Frag) : Addr := (adG "split_words") K
abbrev FD_split_words (K : PySem.W.Frag) (fd : FuncData) : Prop := FunD K "split_words" "split_words" (defArgs s_split_words) (defBody s_split_words) (defScope s_split_words) [] [] (A_split_words K) fd
abbrev N__law_words_right : List Str := ["_law_box_here", "_law_turn", "_law_line_here", "_law_due", "_law_lap", "_law_found", "_law_many", "_law_some", "_law_thing"]
abbrev ps__law_words_right : List Str := ["_law_box_here"]
theorem sc__law_words_right : FnScope N__law_words_right ps__law_words_right (defScope s__law_words_right) := ⟨rfl, rfl, rfl, by decide +kernel, rfl, by decide +kernel, by decide +kernel⟩
abbrev A__law_words_right (K : PySem.W.Frag) : Addr := (adG "_law_words_right") K
abbrev FD__law_words_right (K : PySem.W.Frag) (fd : FuncData) : Prop := FunD K "_law_words_right" "_law_words_right" (defArgs s__law_words_right) (defBody s__law_words_right) (defScope s__law_words_right) [] [] (A__law_words_right K) fd
abbrev N_law : List Str := ["_law_script", "_law_k", "_law_box_here"]
abbrev ps_law : List Str := ["_law_script"]
theorem sc_law : FnScope N_law ps_law (defScope s_law) := ⟨rfl, rfl, rfl, by decide +kernel, rfl, by decide +kernel, by decide +kernel⟩
abbrev A_law (K : PySem.W.Frag) : Addr := (adG "law") K
abbrev FD_law (K : PySem.W.Frag) (fd : FuncData) : Prop := FunD K "law" "law" (defArgs s_law) (defBody s_law) (defScope s_law) [] [] (A_law K) fd
structure Fx (K : PySem.W.Frag) (mg : Str → Option Value) : Prop where
  n_all : mg "all" = none
  n_any : mg "any" = none
  n_int : mg "int" = none
  n_isinstance : mg "isinstance" = none
  n_len : mg "len" = none
  n_list : mg "list" = none
  n_max : mg "max" = none
  n_min : mg "min" = none
  n_range : mg "range" = none
  n_repr : mg "repr" = none
  n_str : mg "str" = none
  c_DIGITS : ∃ t, mg "DIGITS" = some (.str "0123456789" t)
  c_MOST_DIGITS : ∃ t, mg "MOST_DIGITS" = some (.int 30 t)
  g__law_box : mg "_law_box" = some (.ref (A__law_box K))
  f__law_box : ∃ fd, FD__law_box K fd
  g__law_cell : mg "_law_cell" = some (.ref (A__law_cell K))
  f__law_cell : ∃ fd, FD__law_cell K fd
  g__law_take : mg "_law_take" = some (.ref (A__law_take K))
  f__law_take : ∃ fd, FD__law_take K fd
  g__law_figures : mg "_law_figures" = some (.ref (A__law_figures K))
  f__law_figures : ∃ fd, FD__law_figures K fd
  g__law_number : mg "_law_number" = some (.ref (A__law_number K))
  f__law_number : ∃ fd, FD__law_number K fd
  g__law_within : mg "_law_within" = some (.ref (A__law_within K))
  f__law_within : ∃ fd, FD__law_within K fd
  g_parse_integer : mg "parse_integer" = some (.ref (A_parse_integer K))
  f_parse_integer : ∃ fd, FD_parse_integer K fd
  g__law_integers_right : mg "_law_integers_right" = some (.ref (A__law_integers_right K))
  f__law_integers_right : ∃ fd, FD__law_integers_right K fd
  g__law_line : mg "_law_line" = some (.ref (A__law_line K))
  f__law_line : ∃ fd, FD__law_line K fd
  g_split_words : mg "split_words" = some (.ref (A_split_words K))
  f_split_words : ∃ fd, FD_split_words K fd
  g__law_words_right : mg "_law_words_right" = some (.ref (A__law_words_right K))
  f__law_words_right : ∃ fd, FD__law_words_right K fd
  g_law : mg "law" = some (.ref (A_law K))
  f_law : ∃ fd, FD_law K fd
  sm : (K.lookup PySem.sysModules).isSome = true
section
variable {P : Program} {w : World} {K : PySem.W.Frag} {mg : Str → Option Value} {base : Heap}
theorem b__law_box {fd : FuncData} (F : FD__law_box K fd) : Binds K fd ps__law_box [] := F.bindsN fun _ _ _ _ _ _ us hl => match us, hl with | [_], _ => rfl
theorem b__law_cell {fd : FuncData} (F : FD__law_cell K fd) : Binds K fd ps__law_cell [] := F.bindsN fun _ _ _ _ _ _ us hl => match us, hl with | [_, _], _ => rfl
theorem b__law_figures {fd : FuncData} (F : FD__law_figures K fd) : Binds K fd ps__law_figures [] := F.bindsN fun _ _ _ _ _ _ us hl => match us, hl with | [_], _ => rfl
theorem b__law_integers_right {fd : FuncData} (F : FD__law_integers_right K fd) : Binds K fd ps__law_integers_right [] := F.bindsN fun _ _ _ _ _ _ us hl => match us, hl with | [_], _ => rfl
theorem b__law_line {fd : FuncData} (F : FD__law_line K fd) : Binds K fd ps__law_line [] := F.bindsN fun _ _ _ _ _ _ us hl => match us, hl with | [_], _ => rfl
theorem b__law_number {fd : FuncData} (F : FD__law_number K fd) : Binds K fd ps__law_number [] := F.bindsN fun _ _ _ _ _ _ us hl => match us, hl with | [_], _ => rfl
theorem b__law_take {fd : FuncData} (F : FD__law_take K fd) : Binds K fd ps__law_take [] := F.bindsN fun _ _ _ _ _ _ us hl => match us, hl with | [_, _], _ => rfl
theorem b__law_within {fd : FuncData} (F : FD__law_within K fd) : Binds K fd ps__law_within [] := F.bindsN fun _ _ _ _ _ _ us hl => match us, hl with | [_, _, _], _ => rfl
theorem b__law_words_right {fd : FuncData} (F : FD__law_words_right K fd) : Binds K fd ps__law_words_right [] := F.bindsN fun _ _ _ _ _ _ us hl => match us, hl with | [_], _ => rfl
theorem b_split_words {fd : FuncData} (F : FD_split_words K fd) : Binds K fd ps_split_words [] := F.bindsN fun _ _ _ _ _ _ us hl => match us, hl with | [_], _ => rfl
theorem k_parse_integer_1_low_high {fd : FuncData} (F : FD_parse_integer K fd) : KbG K fd ps_parse_integer ["low", "high"] 1 (gPerm [0, 1, 2]) (gPerm [0, 1, 2]) (gPerm [0, 1, 2]) := kbG_of F 1 [0, 1, 2] fun _ _ _ _ _ _ us ws h1 h2 => match us, ws, h1, h2 with | [_], [_, _], _, _ => rfl
theorem k_split_words_0_text {fd : FuncData} (F : FD_split_words K fd) : KbG K fd ps_split_words ["text"] 0 (gPerm [0]) (gPerm [0]) (gPerm [0]) := kbG_of F 0 [0] fun _ _ _ _ _ _ us ws h1 h2 => match us, ws, h1, h2 with | [], [_], _, _ => rfl
theorem bd_parse_integer_0_high_text {fd : FuncData} (F : FD_parse_integer K fd) : ∃ g gV, KbG K fd ps_parse_integer ["high", "text"] 0 g gV (fun ws zs => (gPerm [1, 2, 0] (ws ++ zs) [.int 0])) := kbD_kwo F 0 [1, 2, 0] [("low", .int 0)] [.int 0] (by simp) (by simp) (fun _ => (.cons (.int 0) .nil)) fun _ _ _ _ _ _ us mv ws h1 h2 h3 => match us, mv, ws, h1, h2, h3 with | [], [_], [_, _], _, _, _ => ⟨_, _, _, _, _, _, rfl, rfl, rfl⟩
theorem bd_parse_integer_1 {fd : FuncData} (F : FD_parse_integer K fd) : ∃ g gV, KbG K fd ps_parse_integer [] 1 g gV (fun ws zs => (gPerm [0, 1, 2] (ws ++ zs) [.int 0, .int 999999])) := kbD_kwo F 1 [0, 1, 2] [("low", .int 0), ("high", .int 999999)] [.int 0, .int 999999] (by simp) (by simp) (fun _ => (.cons (.int 0) (.cons (.int 999999) .nil))) fun _ _ _ _ _ _ us mv ws h1 h2 h3 => match us, mv, ws, h1, h2, h3 with | [_], [_, _], [], _, _, _ => ⟨_, _, _, _, _, _, rfl, rfl, ⟨_, _, _, _, _, _, rfl, rfl, rfl⟩⟩
theorem bd_parse_integer_1_high {fd : FuncData} (F : FD_parse_integer K fd) : ∃ g gV, KbG K fd ps_parse_integer ["high"] 1 g gV (fun ws zs => (gPerm [0, 2, 1] (ws ++ zs) [.int 0])) := kbD_kwo F 1 [0, 2, 1] [("low", .int 0)] [.int 0] (by simp) (by simp) (fun _ => (.cons (.int 0) .nil)) fun _ _ _ _ _ _ us mv ws h1 h2 h3 => match us, mv, ws, h1, h2, h3 with | [_], [_], [_], _, _, _ => ⟨_, _, _, _, _, _, rfl, rfl, rfl⟩
theorem bd_parse_integer_1_low {fd : FuncData} (F : FD_parse_integer K fd) : ∃ g gV, KbG K fd ps_parse_integer ["low"] 1 g gV (fun ws zs => (gPerm [0, 1, 2] (ws ++ zs) [.int 999999])) := kbD_kwo F 1 [0, 1, 2] [("high", .int 999999)] [.int 999999] (by simp) (by simp) (fun _ => (.cons (.int 999999) .nil)) fun _ _ _ _ _ _ us mv ws h1 h2 h3 => match us, mv, ws, h1, h2, h3 with | [_], [_], [_], _, _, _ => ⟨_, _, _, _, _, _, rfl, rfl, rfl⟩
theorem ok__law_box (T : Fx K mg) : ∃ fd, FnG P w K mg base 2 (A__law_box K) fd ps__law_box m__law_box ∧ FD__law_box K fd := by
  obtain ⟨fd, F⟩ := T.f__law_box
  refine ⟨fd, fnG_of F sc__law_box fun cdv A outer s H E hr hg => ?_, F⟩
  have tk : Takes (cxOf (L2.CX P w) P w K mg base N__law_box "_law_box" (defScope s__law_box) (A__law_box K) cdv A outer s H E) (WxOf E) := takes_of rfl rfl rfl rfl
  exact (ss_one (ss_ret (se_lst (sa_cons (se_callB (cs_max2 rfl) rfl T.n_max bt_max (sa_cons se_int (sa_cons (se_op os_sub (se_var (pv 0)) (se_op os_pow se_int se_int)) sa_nil))) (sa_cons (se_op os_mod (se_var (pv 0)) se_int) (sa_cons se_int sa_nil))))))
theorem ok__law_cell (T : Fx K mg) : ∃ fd, FnG P w K mg base 2 (A__law_cell K) fd ps__law_cell m__law_cell ∧ FD__law_cell K fd := by
  obtain ⟨fd, F⟩ := T.f__law_cell
  refine ⟨fd, fnG_of F sc__law_cell fun cdv A outer s H E hr hg => ?_, F⟩
  have tk : Takes (cxOf (L2.CX P w) P w K mg base N__law_cell "_law_cell" (defScope s__law_cell) (A__law_cell K) cdv A outer s H E) (WxOf E) := takes_of rfl rfl rfl rfl
  exact (ss_cons (ss_if (st_cmp os_lt (se_var (pv 1)) (se_callB cs_len rfl T.n_len bt_len (sa_cons (se_var (pv 0)) sa_nil)) (nomark _)) (ss_one (ss_ret (se_ixX hr (se_var (pv 0)) (se_var (pv 1))))) ss_nil)
    (ss_one (ss_ret (se_op os_add (se_op os_mul se_int (se_var (pv 1))) se_int))))
theorem ok__law_take (T : Fx K mg) : ∃ fd, FnG P w K mg base 2 (A__law_take K) fd ps__law_take m__law_take ∧ FD__law_take K fd := by
  obtain ⟨fd, F⟩ := T.f__law_take
  refine ⟨fd, fnG_of F sc__law_take fun cdv A outer s H E hr hg => ?_, F⟩
  have tk : Takes (cxOf (L2.CX P w) P w K mg base N__law_take "_law_take" (defScope s__law_take) (A__law_take K) cdv A outer s H E) (WxOf E) := takes_of rfl rfl rfl rfl
  exact (ss_cons (ss_if (st_cmp os_gt (se_ixX hr (se_var (pv 0)) se_int) se_int (nomark _)) (ss_cons (ss_set (i := 2) sc__law_take.nd rfl (by first | exact Or.inl rfl | exact Or.inr rfl) (se_op os_mod (se_ixX hr (se_var (pv 0)) se_int) (se_var (pv 1))))
    (ss_cons (ss_setA hr (se_var (pv 0)) se_int (se_op os_div (se_ixX hr (se_var (pv 0)) se_int) (se_var (pv 1))))
    (ss_one (ss_ret (se_var (pv 2)))))) ss_nil)
    (ss_cons (ss_setA hr (se_var (pv 0)) se_int (se_op os_add (se_ixX hr (se_var (pv 0)) se_int) se_int))
    (ss_cons (ss_set (i := 3) sc__law_take.nd rfl (by first | exact Or.inl rfl | exact Or.inr rfl) (se_op os_mod (se_op os_pow (se_op os_add (se_op os_add (se_ixX hr (se_var (pv 0)) se_int) (se_op os_mul se_int (se_ixX hr (se_var (pv 0)) se_int))) se_int) se_int) se_int))
    (ss_cons (ss_set (i := 3) sc__law_take.nd rfl (by first | exact Or.inl rfl | exact Or.inr rfl) (se_op os_mod (se_op os_pow (se_op os_add (se_var (pv 3)) (se_op os_mul se_int (se_ixX hr (se_var (pv 0)) se_int))) se_int) se_int))
    (ss_one (ss_ret (se_op os_mod (se_op os_div (se_var (pv 3)) se_int) (se_var (pv 1)))))))))
theorem ok__law_figures (T : Fx K mg) : ∃ fd, FnG P w K mg base 3 (A__law_figures K) fd ps__law_figures m__law_figures ∧ FD__law_figures K fd := by
  obtain ⟨fd, F⟩ := T.f__law_figures
  obtain ⟨fd__law_take, G__law_take, F__law_take⟩ := ok__law_take (P := P) (w := w) (base := base) T
  refine ⟨fd, fnG_of F sc__law_figures fun cdv A outer s H E hr hg => ?_, F⟩
  have tk : Takes (cxOf (L2.CX P w) P w K mg base N__law_figures "_law_figures" (defScope s__law_figures) (A__law_figures K) cdv A outer s H E) (WxOf E) := takes_of rfl rfl rfl rfl
  exact (ss_cons (ss_set (i := 1) sc__law_figures.nd rfl (by first | exact Or.inl rfl | exact Or.inr rfl) (se_op os_add se_int (se_callN G__law_take.fz (hr.mono (by decide)) hg tk rfl T.g__law_take F__law_take.kp (b__law_take F__law_take) (sa_cons (se_var (pv 0)) (sa_cons (se_ixX hr (SE.fz (se_lst (sa_cons se_int (sa_cons se_int (sa_cons se_int sa_nil))))) (se_callN G__law_take.fz (hr.mono (by decide)) hg tk rfl T.g__law_take F__law_take.kp (b__law_take F__law_take) (sa_cons (se_var (pv 0)) (sa_cons se_int sa_nil)))) sa_nil)))))
    (ss_cons (ss_set (i := 2) sc__law_figures.nd rfl (by first | exact Or.inl rfl | exact Or.inr rfl) (se_join' se_str (SE.fz (se_lc (own := [("_law_k", 3)]) rfl sc__law_figures.nd (si_range1 rfl T.n_range (sa_cons (se_var (pv 1)) sa_nil)) ⟨blkOk_by (own := [("_law_k", 3)]) (N := N__law_figures) (sc := defScope s__law_figures) (by decide +kernel), fun _ _ _ _ _ => (sg_name (i := 3) sc__law_figures.nd rfl (by first | exact Or.inl rfl | exact Or.inr rfl)), fun _ _ _ _ _ => spts_nil, fun _ _ _ _ _ => (se_ixX hr se_str (se_callN G__law_take.fz (hr.mono (by decide)) hg takes0 rfl T.g__law_take F__law_take.kp (b__law_take F__law_take) (sa_cons (se_var (pv 0)) (sa_cons se_int sa_nil))))⟩))))
    (ss_cons (ss_par (i := 4) (j := 5) rfl sc__law_figures.nd rfl rfl (by decide) rfl rfl (sa_cons (se_callN G__law_take.fz (hr.mono (by decide)) hg tk rfl T.g__law_take F__law_take.kp (b__law_take F__law_take) (sa_cons (se_var (pv 0)) (sa_cons (se_callB cs_len rfl T.n_len bt_len (sa_cons (se_var (pv 2)) sa_nil)) sa_nil))) (sa_cons (se_callN G__law_take.fz (hr.mono (by decide)) hg tk rfl T.g__law_take F__law_take.kp (b__law_take F__law_take) (sa_cons (se_var (pv 0)) (sa_cons se_int sa_nil))) sa_nil)) (by rfl))
    (ss_cons (ss_if (st_cmp (os_eq hr) (se_var (pv 5)) se_int (nomark _)) (ss_one (ss_ret (SE.fz (se_op os_add (SE.fz (se_op os_add (SE.fz (se_sl (se_var (pv 2)) so_none (so_some (se_var (pv 4))))) (se_ixX hr (se_op os_add se_str se_str) (se_callN G__law_take.fz (hr.mono (by decide)) hg tk rfl T.g__law_take F__law_take.kp (b__law_take F__law_take) (sa_cons (se_var (pv 0)) (sa_cons se_int sa_nil)))))) (SE.fz (se_sl (se_var (pv 2)) (so_some (se_op os_add (se_var (pv 4)) se_int)) so_none)))))) ss_nil)
    (ss_cons (ss_if (st_cmp (os_eq hr) (se_var (pv 5)) se_int (nomark _)) (ss_cons (ss_set (i := 6) sc__law_figures.nd rfl (by first | exact Or.inl rfl | exact Or.inr rfl) (SE.fz (se_lst (sa_cons se_str (sa_cons se_str (sa_cons se_str (sa_cons (se_op os_add se_str (se_var (pv 2))) (sa_cons (se_op os_add (se_var (pv 2)) se_str) (sa_cons (se_op os_add se_str (se_var (pv 2))) (sa_cons (se_op os_add se_str (se_var (pv 2))) (sa_cons (se_op os_add (se_var (pv 2)) se_str) (sa_cons (se_op os_add se_str (se_var (pv 2))) sa_nil))))))))))))
    (ss_one (ss_ret (se_ixX hr (se_var (pv 6)) (se_callN G__law_take.fz (hr.mono (by decide)) hg tk rfl T.g__law_take F__law_take.kp (b__law_take F__law_take) (sa_cons (se_var (pv 0)) (sa_cons se_int sa_nil))))))) ss_nil)
    (ss_one (ss_ret (se_var (pv 2)))))))))
theorem ok__law_number (T : Fx K mg) : ∃ fd, FnG P w K mg base 11 (A__law_number K) fd ps__law_number m__law_number ∧ FD__law_number K fd := by
  obtain ⟨fd, F⟩ := T.f__law_number
  refine ⟨fd, fnG_of F sc__law_number fun cdv A outer s H E hr hg => ?_, F⟩
  have tk : Takes (cxOf (L2.CX P w) P w K mg base N__law_number "_law_number" (defScope s__law_number) (A__law_number K) cdv A outer s H E) (WxOf E) := takes_of rfl rfl rfl rfl
  exact (ss_cons (ss_set (i := 1) sc__law_number.nd rfl (by first | exact Or.inl rfl | exact Or.inr rfl) se_str)
    (ss_cons (ss_if (st_w (sw_or (st_cmp (os_eq hr) (se_var (pv 0)) se_str (nomark _)) (sw_or (st_cmp os_gt (se_callB cs_len rfl T.n_len bt_len (sa_cons (se_var (pv 0)) sa_nil)) se_int (nomark _)) (sw_or1 (st_cmp (os_ne hr) (SE.fz (se_lc (own := [("_law_sign", 2)]) rfl sc__law_number.nd (si_val (se_var (pv 0))) ⟨blkOk_by (own := [("_law_sign", 2)]) (N := N__law_number) (sc := defScope s__law_number) (by decide +kernel), fun _ _ _ _ _ => (sg_name (i := 2) sc__law_number.nd rfl (by first | exact Or.inl rfl | exact Or.inr rfl)), fun _ _ _ _ _ => (spts_one (st_cmp (os_notin2 (k := 0) (hr.mono (by decide))) (se_var (pv 2)) (se_var (pv 1)) rfl)), fun _ _ _ _ _ => (se_var (pv 2))⟩)) (SE.fz (se_lst sa_nil)) (nomark _)))))) (ss_one (ss_ret se_non)) ss_nil)
    (ss_cons (ss_if (st_w (sw_and (st_cmp (os_eq hr) (se_ixX hr (se_var (pv 0)) se_int) se_str (nomark _)) (sw_and1 (st_cmp os_gt (se_callB cs_len rfl T.n_len bt_len (sa_cons (se_var (pv 0)) sa_nil)) se_int (nomark _))))) (ss_one (ss_ret se_non)) ss_nil)
    (ss_cons (ss_set (i := 3) sc__law_number.nd rfl (by first | exact Or.inl rfl | exact Or.inr rfl) se_int)
    (ss_cons (ss_for (passes_of rfl) rfl (si_val (se_var (pv 0))) (sg_name (i := 2) sc__law_number.nd rfl (by first | exact Or.inl rfl | exact Or.inr rfl)) (ss_one (ss_set (i := 3) sc__law_number.nd rfl (by first | exact Or.inl rfl | exact Or.inr rfl) (se_op os_add (se_op os_mul se_int (se_var (pv 3))) (se_bm PySem.F.plainAttrs_str PySem.F.slot_str_index PySem.F.type_str_index cs_sindex (se_var (pv 1)) (sa_cons (se_var (pv 2)) sa_nil))))))
    (ss_one (ss_ret (se_var (pv 3)))))))))
theorem ok__law_within (T : Fx K mg) : ∃ fd, FnG P w K mg base 2 (A__law_within K) fd ps__law_within m__law_within ∧ FD__law_within K fd := by
  obtain ⟨fd, F⟩ := T.f__law_within
  refine ⟨fd, fnG_of F sc__law_within fun cdv A outer s H E hr hg => ?_, F⟩
  have tk : Takes (cxOf (L2.CX P w) P w K mg base N__law_within "_law_within" (defScope s__law_within) (A__law_within K) cdv A outer s H E) (WxOf E) := takes_of rfl rfl rfl rfl
  exact (ss_one (ss_ret (se_if (st_w (sw_and (st_cmp os_isnot (se_var (pv 0)) se_non (nomark _)) (sw_and1 (st_chain os_le os_le (se_var (pv 1)) (se_var (pv 0)) (se_var (pv 2)))))) (se_var (pv 0)) se_non)))
theorem ok_parse_integer (T : Fx K mg) : ∃ fd, FnG P w K mg base 11 (A_parse_integer K) fd ps_parse_integer m_parse_integer ∧ FD_parse_integer K fd := by
  obtain ⟨fd, F⟩ := T.f_parse_integer
  refine ⟨fd, fnG_of F sc_parse_integer fun cdv A outer s H E hr hg => ?_, F⟩
  have tk : Takes (cxOf (L2.CX P w) P w K mg base N_parse_integer "parse_integer" (defScope s_parse_integer) (A_parse_integer K) cdv A outer s H E) (WxOf E) := takes_of rfl rfl rfl rfl
  exact (ss_cons (ss_if (st_w (sw_or (st_not (st_tru (se_callB cs_isi rfl T.n_isinstance bt_isinstance (sa_cons (se_var (pv 0)) (sa_cons (se_type rfl T.n_str bt_str) sa_nil))))) (sw_or1 (st_not (st_chain os_le os_le se_int (se_callB cs_len rfl T.n_len bt_len (sa_cons (se_var (pv 0)) sa_nil)) (se_globI T.c_MOST_DIGITS rfl)))))) (ss_one (ss_ret se_non)) ss_nil)
    (ss_cons (ss_if (st_w (sw_or (st_not (st_tru (se_callB (cs_all rfl) rfl T.n_all bt_all (sa_cons (SE.fz (se_lc (own := [("digit", 3)]) rfl sc_parse_integer.nd (si_val (se_var (pv 0))) ⟨blkOk_by (own := [("digit", 3)]) (N := N_parse_integer) (sc := defScope s_parse_integer) (by decide +kernel), fun _ _ _ _ _ => (sg_name (i := 3) sc_parse_integer.nd rfl (by first | exact Or.inl rfl | exact Or.inr rfl)), fun _ _ _ _ _ => spts_nil, fun _ _ _ _ _ => (se_cmp (os_in2 (k := 0) (hr.mono (by decide))) (se_var (pv 3)) (se_globS T.c_DIGITS rfl) rfl)⟩)) sa_nil)))) (sw_or1 (st_w (sw_and (st_cmp (os_eq hr) (se_ixX hr (se_var (pv 0)) se_int) se_str (nomark _)) (sw_and1 (st_cmp (os_ne hr) (se_var (pv 0)) se_str (nomark _)))))))) (ss_one (ss_ret se_non)) ss_nil)
    (ss_cons (ss_set (i := 4) sc_parse_integer.nd rfl (by first | exact Or.inl rfl | exact Or.inr rfl) (se_callT cs_int rfl T.n_int bt_int (sa_cons (se_var (pv 0)) sa_nil)))
    (ss_one (ss_ret (se_if (st_chain os_le os_le (se_var (pv 1)) (se_var (pv 4)) (se_var (pv 2))) (se_var (pv 4)) se_non))))))
theorem ok__law_integers_right (T : Fx K mg) : ∃ fd, FnG P w K mg base 12 (A__law_integers_right K) fd ps__law_integers_right m__law_integers_right ∧ FD__law_integers_right K fd := by
  obtain ⟨fd, F⟩ := T.f__law_integers_right
  obtain ⟨fd__law_figures, G__law_figures, F__law_figures⟩ := ok__law_figures (P := P) (w := w) (base := base) T
  obtain ⟨fd__law_number, G__law_number, F__law_number⟩ := ok__law_number (P := P) (w := w) (base := base) T
  obtain ⟨fd__law_take, G__law_take, F__law_take⟩ := ok__law_take (P := P) (w := w) (base := base) T
  obtain ⟨fd__law_within, G__law_within, F__law_within⟩ := ok__law_within (P := P) (w := w) (base := base) T
  obtain ⟨fd_parse_integer, G_parse_integer, F_parse_integer⟩ := ok_parse_integer (P := P) (w := w) (base := base) T
  obtain ⟨g_parse_integer_0_high_text, gV_parse_integer_0_high_text, B_parse_integer_0_high_text⟩ := bd_parse_integer_0_high_text F_parse_integer
  obtain ⟨g_parse_integer_1, gV_parse_integer_1, B_parse_integer_1⟩ := bd_parse_integer_1 F_parse_integer
  obtain ⟨g_parse_integer_1_high, gV_parse_integer_1_high, B_parse_integer_1_high⟩ := bd_parse_integer_1_high F_parse_integer
  obtain ⟨g_parse_integer_1_low, gV_parse_integer_1_low, B_parse_integer_1_low⟩ := bd_parse_integer_1_low F_parse_integer
  refine ⟨fd, fnG_of F sc__law_integers_right fun cdv A outer s H E hr hg => ?_, F⟩
  have tk : Takes (cxOf (L2.CX P w) P w K mg base N__law_integers_right "_law_integers_right" (defScope s__law_integers_right) (A__law_integers_right K) cdv A outer s H E) (WxOf E) := takes_of rfl rfl rfl rfl
  exact (ss_cons (ss_for (passes_of rfl) rfl (si_range1 rfl T.n_range (sa_cons se_int sa_nil)) (sg_name (i := 1) sc__law_integers_right.nd rfl (by first | exact Or.inl rfl | exact Or.inr rfl)) (ss_cons (ss_set (i := 2) sc__law_integers_right.nd rfl (by first | exact Or.inl rfl | exact Or.inr rfl) (se_callN G__law_figures.fz (hr.mono (by decide)) hg tk rfl T.g__law_figures F__law_figures.kp (b__law_figures F__law_figures) (sa_cons (se_var (pv 0)) sa_nil)))
    (ss_cons (ss_set (i := 3) sc__law_integers_right.nd rfl (by first | exact Or.inl rfl | exact Or.inr rfl) (se_callN G__law_number.fz (hr.mono (by decide)) hg tk rfl T.g__law_number F__law_number.kp (b__law_number F__law_number) (sa_cons (se_var (pv 2)) sa_nil)))
    (ss_cons (ss_set (i := 4) sc__law_integers_right.nd rfl (by first | exact Or.inl rfl | exact Or.inr rfl) (se_if (st_cmp os_isnot (se_var (pv 3)) se_non (nomark _)) (se_callB (cs_min2 rfl) rfl T.n_min bt_min (sa_cons (se_var (pv 3)) (sa_cons (se_op os_sub (se_op os_pow se_int se_int) se_int) sa_nil))) se_int))
    (ss_cons (ss_par (i := 5) (j := 6) rfl sc__law_integers_right.nd rfl rfl (by decide) rfl rfl (sa_cons (se_op os_sub (se_op os_add (se_var (pv 4)) (se_callN G__law_take.fz (hr.mono (by decide)) hg tk rfl T.g__law_take F__law_take.kp (b__law_take F__law_take) (sa_cons (se_var (pv 0)) (sa_cons se_int sa_nil)))) se_int) (sa_cons (se_op os_sub (se_op os_add (se_var (pv 4)) (se_callN G__law_take.fz (hr.mono (by decide)) hg tk rfl T.g__law_take F__law_take.kp (b__law_take F__law_take) (sa_cons (se_var (pv 0)) (sa_cons se_int sa_nil)))) se_int) sa_nil)) (by rfl))
    (ss_cons (ss_if (st_cmp (os_ne hr) (se_callB (cs_reprE T.sm hr hg) rfl T.n_repr bt_repr (sa_cons (se_cal (cG_fn G_parse_integer.fz (hr.mono (by decide)) hg tk B_parse_integer_1 F_parse_integer.kp) rfl T.g_parse_integer (sa_cons (se_var (pv 2)) sa_nil)) sa_nil)) (se_callB (cs_reprE T.sm hr hg) rfl T.n_repr bt_repr (sa_cons (se_callN G__law_within.fz (hr.mono (by decide)) hg tk rfl T.g__law_within F__law_within.kp (b__law_within F__law_within) (sa_cons (se_var (pv 3)) (sa_cons se_int (sa_cons se_int sa_nil)))) sa_nil)) (nomark _)) (ss_one (ss_ret se_bl)) ss_nil)
    (ss_cons (ss_if (st_cmp (os_ne hr) (se_callB (cs_reprE T.sm hr hg) rfl T.n_repr bt_repr (sa_cons (se_callKw G_parse_integer.fz (hr.mono (by decide)) hg tk (k_parse_integer_1_low_high F_parse_integer) rfl rfl T.g_parse_integer F_parse_integer.kp (sa_cons (se_var (pv 2)) sa_nil) (sk_cons (se_var (pv 5)) (sk_cons (se_var (pv 6)) sk_nil))) sa_nil)) (se_callB (cs_reprE T.sm hr hg) rfl T.n_repr bt_repr (sa_cons (se_callN G__law_within.fz (hr.mono (by decide)) hg tk rfl T.g__law_within F__law_within.kp (b__law_within F__law_within) (sa_cons (se_var (pv 3)) (sa_cons (se_var (pv 5)) (sa_cons (se_var (pv 6)) sa_nil)))) sa_nil)) (nomark _)) (ss_one (ss_ret se_bl)) ss_nil)
    (ss_cons (ss_if (st_cmp (os_ne hr) (se_callB (cs_reprE T.sm hr hg) rfl T.n_repr bt_repr (sa_cons (se_calK0 (cG_fn G_parse_integer.fz (hr.mono (by decide)) hg tk B_parse_integer_0_high_text F_parse_integer.kp) rfl rfl T.g_parse_integer (sk_cons (se_var (pv 6)) (sk_cons (se_var (pv 2)) sk_nil))) sa_nil)) (se_callB (cs_reprE T.sm hr hg) rfl T.n_repr bt_repr (sa_cons (se_callN G__law_within.fz (hr.mono (by decide)) hg tk rfl T.g__law_within F__law_within.kp (b__law_within F__law_within) (sa_cons (se_var (pv 3)) (sa_cons se_int (sa_cons (se_var (pv 6)) sa_nil)))) sa_nil)) (nomark _)) (ss_one (ss_ret se_bl)) ss_nil)
    (ss_one (ss_if (st_cmp (os_ne hr) (se_callB (cs_reprE T.sm hr hg) rfl T.n_repr bt_repr (sa_cons (se_calK (cG_fn G_parse_integer.fz (hr.mono (by decide)) hg tk B_parse_integer_1_low F_parse_integer.kp) rfl rfl T.g_parse_integer (sa_cons (se_var (pv 2)) sa_nil) (sk_cons (se_var (pv 5)) sk_nil)) sa_nil)) (se_callB (cs_reprE T.sm hr hg) rfl T.n_repr bt_repr (sa_cons (se_callN G__law_within.fz (hr.mono (by decide)) hg tk rfl T.g__law_within F__law_within.kp (b__law_within F__law_within) (sa_cons (se_var (pv 3)) (sa_cons (se_var (pv 5)) (sa_cons se_int sa_nil)))) sa_nil)) (nomark _)) (ss_one (ss_ret se_bl)) ss_nil))))))))))
    (ss_cons (ss_for (passes_of rfl) rfl (si_val (SE.fz (se_lst (sa_cons se_int (sa_cons se_int (sa_cons se_int (sa_cons se_int (sa_cons se_int (sa_cons se_int (sa_cons se_int (sa_cons se_int (sa_cons (se_callN G__law_take.fz (hr.mono (by decide)) hg tk rfl T.g__law_take F__law_take.kp (b__law_take F__law_take) (sa_cons (se_var (pv 0)) (sa_cons se_int sa_nil))) sa_nil)))))))))))) (sg_name (i := 3) sc__law_integers_right.nd rfl (by first | exact Or.inl rfl | exact Or.inr rfl)) (ss_one (ss_if (st_cmp (os_ne hr) (se_callB (cs_reprE T.sm hr hg) rfl T.n_repr bt_repr (sa_cons (se_cal (cG_fn G_parse_integer.fz (hr.mono (by decide)) hg tk B_parse_integer_1 F_parse_integer.kp) rfl T.g_parse_integer (sa_cons (se_callT cs_str rfl T.n_str bt_str (sa_cons (se_var (pv 3)) sa_nil)) sa_nil)) sa_nil)) (se_callB (cs_reprE T.sm hr hg) rfl T.n_repr bt_repr (sa_cons (se_callN G__law_within.fz (hr.mono (by decide)) hg tk rfl T.g__law_within F__law_within.kp (b__law_within F__law_within) (sa_cons (se_var (pv 3)) (sa_cons se_int (sa_cons se_int sa_nil)))) sa_nil)) (nomark _)) (ss_one (ss_ret se_bl)) ss_nil)))
    (ss_cons (ss_set (i := 7) sc__law_integers_right.nd rfl (by first | exact Or.inl rfl | exact Or.inr rfl) (SE.fz (se_lst (sa_cons se_non (sa_cons se_bl (sa_cons se_int (sa_cons (SE.fz (se_lst (sa_cons se_str sa_nil))) (sa_cons (se_tup (sa_cons se_str sa_nil)) (sa_cons (SE.fz (se_dict (sps_cons se_str se_int sps_nil))) (sa_cons (se_op os_mul se_str se_int) (sa_cons (se_op os_mul se_str se_int) (sa_cons (se_op os_add se_str (se_op os_mul se_str se_int)) sa_nil))))))))))))
    (ss_one (ss_ret (se_cmp (os_eq hr) (SE.fz (se_lc (own := [("_law_thing", 8)]) rfl sc__law_integers_right.nd (si_val (se_var (pv 7))) ⟨blkOk_by (own := [("_law_thing", 8)]) (N := N__law_integers_right) (sc := defScope s__law_integers_right) (by decide +kernel), fun _ _ _ _ _ => (sg_name (i := 8) sc__law_integers_right.nd rfl (by first | exact Or.inl rfl | exact Or.inr rfl)), fun _ _ _ _ _ => (spts_one (st_cmp os_isnot (se_calK (cG_fn G_parse_integer.fz (hr.mono (by decide)) hg takes0 B_parse_integer_1_high F_parse_integer.kp) rfl rfl T.g_parse_integer (sa_cons (se_var (pv 8)) sa_nil) (sk_cons (se_op os_sub (se_op os_pow se_int se_int) se_int) sk_nil)) se_non (nomark _))), fun _ _ _ _ _ => (se_var (pv 8))⟩)) (SE.fz (se_lst sa_nil)) (nomark _)))))))
theorem ok__law_line (T : Fx K mg) : ∃ fd, FnG P w K mg base 3 (A__law_line K) fd ps__law_line m__law_line ∧ FD__law_line K fd := by
  obtain ⟨fd, F⟩ := T.f__law_line
  obtain ⟨fd__law_take, G__law_take, F__law_take⟩ := ok__law_take (P := P) (w := w) (base := base) T
  refine ⟨fd, fnG_of F sc__law_line fun cdv A outer s H E hr hg => ?_, F⟩
  have tk : Takes (cxOf (L2.CX P w) P w K mg base N__law_line "_law_line" (defScope s__law_line) (A__law_line K) cdv A outer s H E) (WxOf E) := takes_of rfl rfl rfl rfl
  exact (ss_cons (ss_par3 (i := 1) (j := 2) (l := 3) rfl sc__law_line.nd rfl rfl rfl (by decide) (by decide) (by decide) rfl rfl rfl (sa_cons (se_lst sa_nil) (sa_cons se_str (sa_cons se_bl sa_nil))) (by rfl))
    (ss_cons (ss_for (passes_of rfl) rfl (si_range1 rfl T.n_range (sa_cons (se_op os_add se_int (se_callN G__law_take.fz (hr.mono (by decide)) hg tk rfl T.g__law_take F__law_take.kp (b__law_take F__law_take) (sa_cons (se_var (pv 0)) (sa_cons se_int sa_nil)))) sa_nil)) (sg_name (i := 4) sc__law_line.nd rfl (by first | exact Or.inl rfl | exact Or.inr rfl)) (ss_cons (ss_set (i := 5) sc__law_line.nd rfl (by first | exact Or.inl rfl | exact Or.inr rfl) se_str)
    (ss_cons (ss_set (i := 6) sc__law_line.nd rfl (by first | exact Or.inl rfl | exact Or.inr rfl) (se_joinR (SE.fz (se_lc (own := [("_law_turn", 7)]) rfl sc__law_line.nd (si_range1 rfl T.n_range (sa_cons (se_op os_add se_int (se_callN G__law_take.fz (hr.mono (by decide)) hg tk rfl T.g__law_take F__law_take.kp (b__law_take F__law_take) (sa_cons (se_var (pv 0)) (sa_cons se_int sa_nil)))) sa_nil)) ⟨blkOk_by (own := [("_law_turn", 7)]) (N := N__law_line) (sc := defScope s__law_line) (by decide +kernel), fun _ _ _ _ _ => (sg_name (i := 7) sc__law_line.nd rfl (by first | exact Or.inl rfl | exact Or.inr rfl)), fun _ _ _ _ _ => spts_nil, fun _ _ _ _ _ => (se_ixX hr (se_var (pv 5)) (se_callN G__law_take.fz (hr.mono (by decide)) hg takes0 rfl T.g__law_take F__law_take.kp (b__law_take F__law_take) (sa_cons (se_var (pv 0)) (sa_cons se_int sa_nil))))⟩))))
    (ss_cons (ss_expr (se_bm PySem.F.plainAttrs_list PySem.F.slot_list_append PySem.F.type_list_append cs_append (se_var (pv 1)) (sa_cons (se_var (pv 6)) sa_nil)))
    (ss_one (ss_set (i := 2) sc__law_line.nd rfl (by first | exact Or.inl rfl | exact Or.inr rfl) (se_op os_add (se_op os_add (se_var (pv 2)) (se_ixX hr (SE.fz (se_lst (sa_cons se_str (sa_cons se_str sa_nil)))) (se_callT cs_int rfl T.n_int bt_int (sa_cons (se_cmp (os_eq hr) (se_var (pv 4)) se_int (nomark _)) sa_nil)))) (se_var (pv 6)))))))))
    (ss_cons (ss_set (i := 8) sc__law_line.nd rfl (by first | exact Or.inl rfl | exact Or.inr rfl) (se_callN G__law_take.fz (hr.mono (by decide)) hg tk rfl T.g__law_take F__law_take.kp (b__law_take F__law_take) (sa_cons (se_var (pv 0)) (sa_cons se_int sa_nil))))
    (ss_cons (ss_set (i := 9) sc__law_line.nd rfl (by first | exact Or.inl rfl | exact Or.inr rfl) (se_callN G__law_take.fz (hr.mono (by decide)) hg tk rfl T.g__law_take F__law_take.kp (b__law_take F__law_take) (sa_cons (se_var (pv 0)) (sa_cons (se_op os_add (se_callB cs_len rfl T.n_len bt_len (sa_cons (se_var (pv 2)) sa_nil)) se_int) sa_nil))))
    (ss_cons (ss_ifK (stK_cmp (os_eq hr) (se_var (pv 8)) (nomark _)) (SSs.t (ss_one (ss_par (i := 2) (j := 3) rfl sc__law_line.nd rfl rfl (by decide) rfl rfl (sa_cons (se_op os_add (se_var (pv 2)) se_str) (sa_cons se_bl sa_nil)) (by rfl)))) (sst_one (sst_if (st_cmp (os_eq hr) (se_var (pv 8)) se_int (nomark _)) (SSs.t (ss_one (ss_par (i := 2) (j := 3) rfl sc__law_line.nd rfl rfl (by decide) rfl rfl (sa_cons (se_op os_add se_str (se_var (pv 2))) (sa_cons se_bl sa_nil)) (by rfl)))) (sst_one (sst_if (st_cmp (os_eq hr) (se_var (pv 8)) se_int (nomark _)) (SSs.t (ss_one (ss_par (i := 2) (j := 3) rfl sc__law_line.nd rfl rfl (by decide) rfl rfl (sa_cons (SE.fz (se_op os_add (SE.fz (se_op os_add (SE.fz (se_sl (se_var (pv 2)) so_none (so_some (se_var (pv 9))))) se_str)) (SE.fz (se_sl (se_var (pv 2)) (so_some (se_var (pv 9))) so_none)))) (sa_cons se_bl sa_nil)) (by rfl)))) (sst_one (sst_if (st_w (sw_and (st_cmp (os_eq hr) (se_var (pv 8)) se_int (nomark _)) (sw_and1 (st_cmp os_gt (se_callB cs_len rfl T.n_len bt_len (sa_cons (se_var (pv 1)) sa_nil)) se_int (nomark _))))) (sst_one (sst_par (i := 2) (j := 3) rfl sc__law_line.nd rfl rfl (by decide) rfl rfl (sat_cons (set_repN (se_var (pv 2))) (sat_cons (SE.t se_bl) sat_nil)) (by rfl))) (SSs.t ss_nil))))))))
    (ss_one (ss_ret (SE.fz (se_lst (sa_cons (se_var (pv 2)) (sa_cons (se_if (st_tru (se_var (pv 3))) (se_var (pv 1)) se_non) sa_nil)))))))))))
theorem ok_split_words (T : Fx K mg) : ∃ fd, FnG P w K mg base 11 (A_split_words K) fd ps_split_words m_split_words ∧ FD_split_words K fd := by
  obtain ⟨fd, F⟩ := T.f_split_words
  refine ⟨fd, fnG_of F sc_split_words fun cdv A outer s H E hr hg => ?_, F⟩
  have tk : Takes (cxOf (L2.CX P w) P w K mg base N_split_words "split_words" (defScope s_split_words) (A_split_words K) cdv A outer s H E) (WxOf E) := takes_of rfl rfl rfl rfl
  exact (ss_cons (ss_if (st_not (st_tru (se_callB cs_isi rfl T.n_isinstance bt_isinstance (sa_cons (se_var (pv 0)) (sa_cons (se_type rfl T.n_str bt_str) sa_nil))))) (ss_one (ss_ret se_non)) ss_nil)
    (ss_cons (ss_set (i := 1) sc_split_words.nd rfl (by first | exact Or.inl rfl | exact Or.inr rfl) (se_bm PySem.F.plainAttrs_str PySem.F.slot_str_split PySem.F.type_str_split cs_split (se_var (pv 0)) (sa_cons se_str sa_nil)))
    (ss_one (ss_ret (se_if (st_tru (se_callB (cs_any rfl) rfl T.n_any bt_any (sa_cons (SE.fz (se_lc (own := [("word", 2)]) rfl sc_split_words.nd (si_val (se_var (pv 1))) ⟨blkOk_by (own := [("word", 2)]) (N := N_split_words) (sc := defScope s_split_words) (by decide +kernel), fun _ _ _ _ _ => (sg_name (i := 2) sc_split_words.nd rfl (by first | exact Or.inl rfl | exact Or.inr rfl)), fun _ _ _ _ _ => spts_nil, fun _ _ _ _ _ => (se_or (se_cmp (os_eq hr) (se_var (pv 2)) se_str (nomark _)) (se_one (se_cmp (os_in2 (k := 0) (hr.mono (by decide))) se_str (se_var (pv 2)) rfl)))⟩)) sa_nil))) se_non (se_var (pv 1)))))))
theorem ok__law_words_right (T : Fx K mg) : ∃ fd, FnG P w K mg base 12 (A__law_words_right K) fd ps__law_words_right m__law_words_right ∧ FD__law_words_right K fd := by
  obtain ⟨fd, F⟩ := T.f__law_words_right
  obtain ⟨fd__law_line, G__law_line, F__law_line⟩ := ok__law_line (P := P) (w := w) (base := base) T
  obtain ⟨fd__law_take, G__law_take, F__law_take⟩ := ok__law_take (P := P) (w := w) (base := base) T
  obtain ⟨fd_split_words, G_split_words, F_split_words⟩ := ok_split_words (P := P) (w := w) (base := base) T
  refine ⟨fd, fnG_of F sc__law_words_right fun cdv A outer s H E hr hg => ?_, F⟩
  have tk : Takes (cxOf (L2.CX P w) P w K mg base N__law_words_right "_law_words_right" (defScope s__law_words_right) (A__law_words_right K) cdv A outer s H E) (WxOf E) := takes_of rfl rfl rfl rfl
  exact (ss_cons (ss_for (passes_of rfl) rfl (si_range1 rfl T.n_range (sa_cons se_int sa_nil)) (sg_name (i := 1) sc__law_words_right.nd rfl (by first | exact Or.inl rfl | exact Or.inr rfl)) (ss_cons (ss_asg (se_callN G__law_line.fz (hr.mono (by decide)) hg tk rfl T.g__law_line F__law_line.kp (b__law_line F__law_line) (sa_cons (se_var (pv 0)) sa_nil)) (sg_unp rfl (sg_cons (sg_name (i := 2) sc__law_words_right.nd rfl (by first | exact Or.inl rfl | exact Or.inr rfl)) (sg_cons (sg_name (i := 3) sc__law_words_right.nd rfl (by first | exact Or.inl rfl | exact Or.inr rfl)) sg_nil))))
    (ss_one (ss_for (passes_of rfl) rfl (si_range1 rfl T.n_range (sa_cons se_int sa_nil)) (sg_name (i := 4) sc__law_words_right.nd rfl (by first | exact Or.inl rfl | exact Or.inr rfl)) (ss_cons (ss_set (i := 5) sc__law_words_right.nd rfl (by first | exact Or.inl rfl | exact Or.inr rfl) (se_if (st_cmp (os_eq hr) (se_var (pv 4)) se_int (nomark _)) (se_callKw0 G_split_words.owa (hr.mono (by decide)) hg tk (k_split_words_0_text F_split_words) rfl rfl T.g_split_words F_split_words.kp (sk_cons (se_var (pv 2)) sk_nil)) (se_callN G_split_words.owa (hr.mono (by decide)) hg tk rfl T.g_split_words F_split_words.kp (b_split_words F_split_words) (sa_cons (se_var (pv 2)) sa_nil))))
    (ss_cons (ss_if (st_cmp (os_ne hr) (se_callB (cs_reprE T.sm hr hg) rfl T.n_repr bt_repr (sa_cons (se_var (pv 5)) sa_nil)) (se_callB (cs_reprE T.sm hr hg) rfl T.n_repr bt_repr (sa_cons (se_var (pv 3)) sa_nil)) (nomark _)) (ss_one (ss_ret se_bl)) ss_nil)
    (ss_one (ss_if (st_tru (se_callB cs_isi rfl T.n_isinstance bt_isinstance (sa_cons (se_var (pv 5)) (sa_cons (se_type rfl T.n_list bt_list) sa_nil)))) (ss_one (ss_expr (se_bm PySem.F.plainAttrs_list PySem.F.slot_list_append PySem.F.type_list_append cs_append (se_var (pv 5)) (sa_cons se_str sa_nil)))) ss_nil))))))))
    (ss_cons (ss_set (i := 6) sc__law_words_right.nd rfl (by first | exact Or.inl rfl | exact Or.inr rfl) (se_op os_add se_int (se_callN G__law_take.fz (hr.mono (by decide)) hg tk rfl T.g__law_take F__law_take.kp (b__law_take F__law_take) (sa_cons (se_var (pv 0)) (sa_cons se_int sa_nil)))))
    (ss_cons (ss_if (st_w (sw_or (st_cmp (os_ne hr) (se_callN G_split_words.owa (hr.mono (by decide)) hg tk rfl T.g_split_words F_split_words.kp (b_split_words F_split_words) (sa_cons (se_op os_add (se_op os_mul se_str (se_var (pv 6))) se_str) sa_nil)) (SE.fz (se_op os_add (SE.fz (se_op os_mul (SE.fz (se_lst (sa_cons se_str sa_nil))) (se_var (pv 6)))) (SE.fz (se_lst (sa_cons se_str sa_nil))))) (nomark _)) (sw_or1 (st_cmp os_isnot (se_callN G_split_words.owa (hr.mono (by decide)) hg tk rfl T.g_split_words F_split_words.kp (b_split_words F_split_words) (sa_cons (se_op os_mul se_str (se_var (pv 6))) sa_nil)) se_non (nomark _))))) (ss_one (ss_ret se_bl)) ss_nil)
    (ss_cons (ss_set (i := 7) sc__law_words_right.nd rfl (by first | exact Or.inl rfl | exact Or.inr rfl) (SE.fz (se_lst (sa_cons se_non (sa_cons se_bl (sa_cons se_int (sa_cons (SE.fz (se_lst (sa_cons se_str sa_nil))) (sa_cons (se_tup (sa_cons se_str sa_nil)) (sa_cons (SE.fz (se_dict (sps_cons se_str se_int sps_nil))) (sa_cons se_str (sa_cons se_str (sa_cons se_str (sa_cons se_str (sa_cons se_str sa_nil))))))))))))))
    (ss_one (ss_ret (se_cmp (os_eq hr) (SE.fz (se_lc (own := [("_law_thing", 8)]) rfl sc__law_words_right.nd (si_val (se_var (pv 7))) ⟨blkOk_by (own := [("_law_thing", 8)]) (N := N__law_words_right) (sc := defScope s__law_words_right) (by decide +kernel), fun _ _ _ _ _ => (sg_name (i := 8) sc__law_words_right.nd rfl (by first | exact Or.inl rfl | exact Or.inr rfl)), fun _ _ _ _ _ => (spts_one (st_cmp os_isnot (se_callN G_split_words.owa (hr.mono (by decide)) hg takes0 rfl T.g_split_words F_split_words.kp (b_split_words F_split_words) (sa_cons (se_var (pv 8)) sa_nil)) se_non (nomark _))), fun _ _ _ _ _ => (se_var (pv 8))⟩)) (SE.fz (se_lst sa_nil)) (nomark _))))))))
theorem ok_law (T : Fx K mg) : ∃ fd, FnG P w K mg base 13 (A_law K) fd ps_law m_law ∧ FD_law K fd := by
  obtain ⟨fd, F⟩ := T.f_law
  obtain ⟨fd__law_box, G__law_box, F__law_box⟩ := ok__law_box (P := P) (w := w) (base := base) T
  obtain ⟨fd__law_cell, G__law_cell, F__law_cell⟩ := ok__law_cell (P := P) (w := w) (base := base) T
  obtain ⟨fd__law_integers_right, G__law_integers_right, F__law_integers_right⟩ := ok__law_integers_right (P := P) (w := w) (base := base) T
  obtain ⟨fd__law_words_right, G__law_words_right, F__law_words_right⟩ := ok__law_words_right (P := P) (w := w) (base := base) T
  refine ⟨fd, fnG_of F sc_law fun cdv A outer s H E hr hg => ?_, F⟩
  have tk : Takes (cxOf (L2.CX P w) P w K mg base N_law "law" (defScope s_law) (A_law K) cdv A outer s H E) (WxOf E) := takes_of rfl rfl rfl rfl
  exact (ss_cons (ss_for (passes_of rfl) rfl (si_range1 rfl T.n_range (sa_cons (se_callB (cs_max2 rfl) rfl T.n_max bt_max (sa_cons se_int (sa_cons (se_callB (cs_min2 rfl) rfl T.n_min bt_min (sa_cons se_int (sa_cons (se_callB cs_len rfl T.n_len bt_len (sa_cons (se_var (pv 0)) sa_nil)) sa_nil))) sa_nil))) sa_nil)) (sg_name (i := 1) sc_law.nd rfl (by first | exact Or.inl rfl | exact Or.inr rfl)) (ss_cons (ss_set (i := 2) sc_law.nd rfl (by first | exact Or.inl rfl | exact Or.inr rfl) (se_callN G__law_box.ow (hr.mono (by decide)) hg tk rfl T.g__law_box F__law_box.kp (b__law_box F__law_box) (sa_cons (se_callN G__law_cell.fz (hr.mono (by decide)) hg tk rfl T.g__law_cell F__law_cell.kp (b__law_cell F__law_cell) (sa_cons (se_var (pv 0)) (sa_cons (se_var (pv 1)) sa_nil))) sa_nil)))
    (ss_one (ss_if (st_w (sw_or (st_not (st_tru (se_callN G__law_integers_right.fz (hr.mono (by decide)) hg tk rfl T.g__law_integers_right F__law_integers_right.kp (b__law_integers_right F__law_integers_right) (sa_cons (se_var (pv 2)) sa_nil)))) (sw_or1 (st_not (st_tru (se_callN G__law_words_right.fz (hr.mono (by decide)) hg tk rfl T.g__law_words_right F__law_words_right.kp (b__law_words_right F__law_words_right) (sa_cons (se_var (pv 2)) sa_nil))))))) (ss_one (ss_ret se_bl)) ss_nil))))
    (ss_one (ss_ret se_bl)))
end
end K03
set_option maxHeartbeats 0
namespace K03
open PySem PySem.Spec L2 PM
open PyProof.Rows hiding St
open K03X
theorem facts {K : PySem.W.Frag} {h : Heap} {mg : Str → Option Value} (X : K.In h) (G : h.Ns mainGlobals mg) (c : SaysA (exL fa) fn K) : Fx K mg where
  n_all := He.free_ok X G (c.fq 0 (f := .fa (.free "all")) rfl)
  n_any := He.free_ok X G (c.fq 1 (f := .fa (.free "any")) rfl)
  n_int := He.free_ok X G (c.fq 2 (f := .fa (.free "int")) rfl)
  n_isinstance := He.free_ok X G (c.fq 3 (f := .fa (.free "isinstance")) rfl)
  n_len := He.free_ok X G (c.fq 4 (f := .fa (.free "len")) rfl)
  n_list := He.free_ok X G (c.fq 5 (f := .fa (.free "list")) rfl)
  n_max := He.free_ok X G (c.fq 6 (f := .fa (.free "max")) rfl)
  n_min := He.free_ok X G (c.fq 7 (f := .fa (.free "min")) rfl)
  n_range := He.free_ok X G (c.fq 8 (f := .fa (.free "range")) rfl)
  n_repr := He.free_ok X G (c.fq 9 (f := .fa (.free "repr")) rfl)
  n_str := He.free_ok X G (c.fq 10 (f := .fa (.free "str")) rfl)
  c_DIGITS := He.str_ok X G (c.fq 11 (f := .fa (.str "DIGITS" "0123456789")) rfl)
  c_MOST_DIGITS := He.int_ok X G (c.fq 12 (f := .fa (.int "MOST_DIGITS" 30)) rfl)
  g__law_box := He.glo_ok X G (c.fq 13 (f := .fa (.glo "_law_box")) rfl)
  g__law_cell := He.glo_ok X G (c.fq 14 (f := .fa (.glo "_law_cell")) rfl)
  g__law_take := He.glo_ok X G (c.fq 15 (f := .fa (.glo "_law_take")) rfl)
  g__law_figures := He.glo_ok X G (c.fq 16 (f := .fa (.glo "_law_figures")) rfl)
  g__law_number := He.glo_ok X G (c.fq 17 (f := .fa (.glo "_law_number")) rfl)
  g__law_within := He.glo_ok X G (c.fq 18 (f := .fa (.glo "_law_within")) rfl)
  g_parse_integer := He.glo_ok X G (c.fq 19 (f := .fa (.glo "parse_integer")) rfl)
  g__law_integers_right := He.glo_ok X G (c.fq 20 (f := .fa (.glo "_law_integers_right")) rfl)
  g__law_line := He.glo_ok X G (c.fq 21 (f := .fa (.glo "_law_line")) rfl)
  g_split_words := He.glo_ok X G (c.fq 22 (f := .fa (.glo "split_words")) rfl)
  g__law_words_right := He.glo_ok X G (c.fq 23 (f := .fa (.glo "_law_words_right")) rfl)
  g_law := He.glo_ok X G (c.fq 24 (f := .fa (.glo "law")) rfl)
  sm := (c.fq 25 (f := .g (fun K => (K.lookup PySem.sysModules).isSome)) rfl)
  f__law_box := c.def_ 0 (d := D__law_box) rfl
  f__law_cell := c.def_ 1 (d := D__law_cell) rfl
  f__law_take := c.def_ 2 (d := D__law_take) rfl
  f__law_figures := c.def_ 3 (d := D__law_figures) rfl
  f__law_number := c.def_ 4 (d := D__law_number) rfl
  f__law_within := c.def_ 5 (d := D__law_within) rfl
  f_parse_integer := c.def_ 6 (d := D_parse_integer) rfl
  f__law_integers_right := c.def_ 7 (d := D__law_integers_right) rfl
  f__law_line := c.def_ 8 (d := D__law_line) rfl
  f_split_words := c.def_ 9 (d := D_split_words) rfl
  f__law_words_right := c.def_ 10 (d := D__law_words_right) rfl
  f_law := c.def_ 11 (d := D_law) rfl
end K03
open PySem PySem.W PySem.Calls PyProof.Rows in
set_option maxRecDepth 100000 in
set_option maxHeartbeats 0 in
theorem PySem.Challenge.cw_pagemesh_k03_integers_and_words_in_texts_holds : PySem.Challenge.rw_pagemesh_k03_integers_and_words_in_texts.Holds := by
  w_on; o_law
  refine HandSHeadRun.head_any (r := K03X.R) (q := view K03X.R.prog [15]) (H := K03X.hk) (ob := K03X.ob) (M := 12000) (loose := K03X.loose) (d := HandSHeadRun.topDef K03X.R.prog 15) (kwd := []) K03X.ob_eq
    (by kernel_rfl) (fun s => by kernel_rfl) K03X.run (by kernel_rfl) (by kernel_rfl) (by kernel_rfl) (by rfl) (by first | assumption | decide +kernel) (by decide +kernel) ⟨rfl, rfl, rfl, rfl, rfl, by decide +kernel⟩ ?hw ?hc
  case hw => w_witness2
  case hc =>
    refine PM.walk_mirror (l := PySem.Challenge.rw_pagemesh_k03_integers_and_words_in_texts) (n := 63) (k := 13) (x := "_law_script") rfl (by decide) (by kernel_rfl) ⟨rfl, by decide, by decide⟩ ?F
    intro w mg fa h Y G hmg0
    obtain ⟨K, KX, c⟩ := Y
    have hmg : mg ("law" : PySem.Str) = some (.ref fa) := by
      have e : (HandSHeadRun.topDef K03X.R.prog 15).name = ("law" : PySem.Str) := by kernel_rfl
      rw [← e]
      exact hmg0
    have T := K03.facts KX G c
    cases hmg.symm.trans T.g_law
    obtain ⟨fd, F⟩ := T.f_law
    refine ⟨K, fd, K03.m_law, KX, fun s u => L2.FunD.bindsA (ps := ["_law_script"]) F (fun _ _ _ _ _ _ us hl => match us, hl with | [_], _ => rfl) s [u] rfl, K03.holds, fun base _ _ => ?_⟩
    obtain ⟨fd2, H, F2⟩ := K03.ok_law (P := (PySem.Challenge.rw_pagemesh_k03_integers_and_words_in_texts).prog) (w := w) (base := base) T
    cases PM.FunD.same F F2
    exact H
