import PyProof.Rows.All
import Wide.All
import OpenK.AllK
import Wide.FinOn
import HandS.Base
import HandS.Call
import HandS.List
import HandS.Comp
import HandS.Dict
import HandS.Iter
import HandS.Text
import HandS.Evl
import HandS.Exc
import HandS.TupAny
import KE.KeyNested
import HandS.Wide
import HandS.Steps
import HandS.Words
import HandS.WordsExc
import PyProof.NeData
import HandS.OwnEq
import HandS.Property
import HandS.IsInst
import HandS.ExcInit
import HandS.Defaults
import KE.KOpsOwn
import PyProof.InstNe
import HandS.Head0
import HandS.ExcField
import HandS.ExcOwn
import HandS.Codes
import HandS.Conv
import HandS.Style
import KE.KStateDown
import HandS.Head1
import HandS.Head2
import HandS.HeadEnd
import HandS.HeadHook1
import HandS.HeadHook2
import HandS.EndBits
import HandS.TupMul
import KE.DataCmp
import KE.DatumOrd
import HandS.DictComp
import HandS.RaiseMore
import KE.DataEq
import HandS.Finally
import KE.GoesNew
import KE.GoesMore
import OpenK.KMeth
import HandS.Small
import HandS.TupSets
import HandS.Star
import PyProof.Rows.TupDisplay
import KE.KDictCopyH
import PyProof.FactsAll.dict_2
import KE.GoesDict
import HandS.SetKeys
import HandS.GenCall
import HandS.GenList
import HandS.TryOnly
import KE.KExcIs
import HandS.ExcValue
import PySem.Challenge.RW_alsoshown_k01_errors_made
set_option Elab.async false
set_option linter.all false
set_option maxRecDepth 100000
set_option maxHeartbeats 4000000
namespace DL
open PySem L2 PySem.W
def lineOk (C : Addr) (cd : ClassData) : Bool := !cd.hasDel && (cd.hasDict && (match cd.mro with
  | x :: r => x == .ref C && PySem.HandSPX.refsVE r
  | [] => false))
def slotsOk (sl : Array (Option Value)) : Bool := sl.size == 6 && sl[4]? == some (some (.builtin "ValueError.__new__"))
def errObj (C : Addr) (o : Obj) : Bool := o.cls == .type "type" && (slotsOk o.slots && (match o.data with
  | .cls cd => lineOk C cd
  | _ => false))
def oexB (K : PySem.W.Frag) (C : Addr) : Bool := (K.lookup C).any (errObj C) && (decide (findIn K (.ref C) "__setattr__" = some (some (.builtin "object.__setattr__"))) && (decide (subIn K (.ref C) (.type "BaseException") = some true) && (decide (typeIn K (.ref C) = some (.type "type")) && keepIn K (.ref C))))
def xcB (K : PySem.W.Frag) (C : Addr) : Bool := oexB K C && xfB K C
def EqT (K : PySem.W.Frag) (C : Addr) : Prop := ∀ T ∈ ["NoneType", "bool", "int", "str", "list", "tuple"], subIn K (.type T) (.ref C) = some false
structure ClsI (K : PySem.W.Frag) (C : Addr) : Prop where
  cl : Cls K C
  ha : findIn K (.ref C) "__class__" = some (some (.builtin "object.__class__"))
  hn : specialIn K (.builtin "object.__class__") "__get__" = some (some (.builtin "getset_descriptor.__get__"))
  htk : takesIn K (.builtin "object.__class__") = some true
  hm : mroIn K C (.type "object") = some true
structure Sm (K : PySem.W.Frag) (C : Addr) (m : Str) (f : Addr) : Prop where
  at_ : findIn K (.ref C) m = some (some (.ref f))
  fn : isFn K (.ref f) = true
structure Bo (K : PySem.W.Frag) (C : Addr) (op : Operator) (f : Addr) : Prop where
  first : selfFirst K C = true
  sm : Sm K C (PySem.dunder op.info.2) f
  refl : findIn K (.ref C) (dunderR op.info.2) = some none
structure BoT (K : PySem.W.Frag) (C : Addr) (op : Operator) (T : String) : Prop where
  l : ∃ fo, findIn K (.type T) (PySem.dunder op.info.2) = some fo
  r : ∃ ro, findIn K (.type T) (dunderR op.info.2) = some ro
  sub : subIn K (.type T) (.ref C) = some false
end DL
/-! DK: what the head tells of a text's defs and classes (own work). -/
namespace DL
open PySem L2 PySem.W

/-! the picture of a def: all that the text fixes of it -/
structure Pic where
  nm : Str
  qn : Str
  pars : Arguments
  code : FuncBody
  sco : Scope
  env : Addr × Addr
  clo : List (Str × Addr)
def picOf (f : FuncData) : Pic := ⟨f.name, f.qualname, f.params, f.body, f.scope, (f.globals, f.builtins), f.closure⟩
def asFn : Data → Option FuncData
  | .func f => some f
  | _ => none
def fnAt (K : PySem.W.Frag) (a : Addr) : Option FuncData := (K.lookup a).bind fun o => asFn o.data
theorem asFn_some {dt : Data} {f : FuncData} (h : asFn dt = some f) : dt = .func f := by
  cases dt <;> first | (cases h; rfl) | cases h
theorem fnAt_some {K : PySem.W.Frag} {a : Addr} {f : FuncData} (h : fnAt K a = some f) : ∃ o, K.lookup a = some o ∧ o.data = .func f := by
  obtain ⟨o, h1, h2⟩ := Option.bind_eq_some_iff.mp h
  exact ⟨o, h1, asFn_some h2⟩
/-- a def of the text: where it stands, its picture, its defaults -/
structure Df where
  at_ : PySem.W.Frag → Addr
  name : Str
  qual : Str
  params : Arguments
  body : List Stmt
  scope : Scope
  dfs : PySem.W.Frag → List V
def Df.pic (d : Df) : Pic := ⟨d.name, d.qual, d.params, .stmts d.body, d.scope, (mainGlobals, builtinsNs), []⟩
def Df.good (K : PySem.W.Frag) (d : Df) : Bool := keepIn K (.ref (d.at_ K)) && (fnAt K (d.at_ K)).any fun f => codeIn K f.code d.qual && (He.dflB K f.defaults (d.dfs K) && He.kwdB K f.kwdefaults [])
theorem Df.known {K : PySem.W.Frag} {d : Df} (e : (fnAt K (d.at_ K)).map picOf = some d.pic) (c : d.good K = true) : ∃ fd, FunD K d.name d.qual d.params d.body d.scope (d.dfs K) [] (d.at_ K) fd := by
  have c' := Bool.and_eq_true_iff.mp c
  cases hf : fnAt K (d.at_ K) with
  | none =>
    rw [hf] at e
    cases e
  | some f =>
    rw [hf] at e c'
    have c2 : (codeIn K f.code d.qual && (He.dflB K f.defaults (d.dfs K) && He.kwdB K f.kwdefaults [])) = true := c'.2
    have c3 := Bool.and_eq_true_iff.mp c2
    have c4 := Bool.and_eq_true_iff.mp c3.2
    obtain ⟨o, lk, hd⟩ := fnAt_some hf
    have same : f = PySem.W.fnOf d.name d.qual d.params d.body d.scope f.defaults f.kwdefaults f.doc f.pyModule f.annotations f.code f.closureTuple := by
      have e1 : picOf f = d.pic := Option.some.inj e
      have n := congrArg Pic.nm e1
      have qn := congrArg Pic.qn e1
      have ps := congrArg Pic.pars e1
      have bd := congrArg Pic.code e1
      have sc := congrArg Pic.sco e1
      have ev := congrArg Pic.env e1
      have cl := congrArg Pic.clo e1
      have g := congrArg Prod.fst ev
      have bt := congrArg Prod.snd ev
      cases f
      cases n; cases qn; cases ps; cases bd; cases sc; cases cl; cases g; cases bt
      rfl
    have lk2 : K.lookup (d.at_ K) = some ⟨o.cls, o.dict, .func f, o.slots⟩ := by
      rw [lk, ← hd]
    exact ⟨f, ⟨o.cls, o.dict, f.defaults, f.kwdefaults, f.doc, f.pyModule, f.annotations, f.code, f.closureTuple, o.slots, same, lk2, c3.1, He.dflB_ok c4.1, He.kwdB_ok c4.2⟩, c'.1⟩
abbrev Fx := PySem.W.Frag → Bool
/-- all facts and all defs of a text, looked at in one heap -/
abbrev AlY : Type := Bool × List (Option Pic)
def lookY (ex : List Fx) (fn : List Df) (K : PySem.W.Frag) : AlY := (ex.all (· K) && fn.all (Df.good K), fn.map fun d => (fnAt K (d.at_ K)).map picOf)
def dueY (fn : List Df) : AlY := (true, fn.map fun d => some d.pic)
def SaysY (ex : List Fx) (fn : List Df) (K : PySem.W.Frag) : Prop := lookY ex fn K = dueY fn
section
variable {ex : List Fx} {fn : List Df} {K : PySem.W.Frag}
theorem SaysY.both (c : SaysY ex fn K) : (∀ f ∈ ex, f K = true) ∧ ∀ d ∈ fn, Df.good K d = true := by
  have c1 : (ex.all (· K) && fn.all (Df.good K)) = true := congrArg Prod.fst c
  rw [Bool.and_eq_true, List.all_eq_true, List.all_eq_true] at c1
  exact c1
theorem SaysY.fact (c : SaysY ex fn K) (i : Nat) {f : Fx} (h : ex[i]? = some f := by rfl) : f K = true := c.both.1 f (List.mem_of_getElem? h)
theorem SaysY.def_ (c : SaysY ex fn K) (i : Nat) {d : Df} (h : fn[i]? = some d := by rfl) : ∃ fd, FunD K d.name d.qual d.params d.body d.scope (d.dfs K) [] (d.at_ K) fd := by
  refine Df.known ?_ (c.both.2 d (List.mem_of_getElem? h))
  have e := congrArg (fun z : AlY => z.2[i]?) c
  simp only [lookY, dueY, List.getElem?_map, h, Option.map_some, Option.some.injEq] at e
  exact e
end
/-! ### the facts, by Bool -/
section
variable {K : PySem.W.Frag} {C : Addr}
def fGlo (x : Str) : Fx := fun K => (He.Fa.glo x).ok K && keepIn K (.ref (He.ga K x))
def fFree (x : Str) : Fx := fun K => (He.Fa.free x).ok K
def fNoat (x f : Str) : Fx := fun K => (He.Fa.noat x f).ok K
def fXc (x : Str) : Fx := fun K => xcB K (He.ga K x)
def fXi (x : Str) : Fx := fun K => He.eqO (findIn K (.ref (He.ga K x)) "__init__") (some (some (.ref (He.ma K (He.ga K x) "__init__")))) && decide (typeIn K (.ref (He.ma K (He.ga K x) "__init__")) = some (.type "function"))
theorem xi_ok {x : Str} (h : fXi x K = true) : findIn K (.ref (He.ga K x)) "__init__" = some (some (.ref (He.ma K (He.ga K x) "__init__"))) ∧ typeIn K (.ref (He.ma K (He.ga K x) "__init__")) = some (.type "function") := let ⟨a, b⟩ := He.ba h; ⟨He.eqO_ok a, of_decide_eq_true b⟩
def fX0 (x : Str) : Fx := fun K => (He.Fa.exc x).ok K
end
/-! ### words of the derivations -/
section
variable {X : Cx} {E : XK}
theorem pass_own {E₁ : Value → Shared → Prop} (hs : X.stack = X.env :: X.outer) (hf : X.env.frame = some X.env.locals) (hex : X.ex = []) (hx : X.xe = fun e s' => wpAny (model X.prog X.w) X.A (leaving X.env e) (fun _ s'' => L2.CX X.prog X.w X.outer X.H_0 X.s_0 E e s'') E₁ s') : Passes (L2.CX X.prog X.w) X E :=
  passes_call (takes_of hs hf hex hx) fun _ _ _ _ h => h
end
end DL

/-! DK2: the head's look, from the names that a text wants alone (own work). -/
namespace DL
open PySem L2 PySem.W
/-- the addresses that are not yet in the mask m, each once -/
def freshA {α : Type} : List Addr → Nat → List Addr → (List Addr → Nat → α) → α
  | [], m, acc, k => k acc m
  | a :: r, m, acc, k => HandSHeadRun.frNat a fun b => if Nat.beq ((m >>> b) % 2) 1 then freshA r m acc k else HandSHeadRun.frNat (m + (1 <<< b)) fun m2 => freshA r m2 (b :: acc) k
/-- what these reach in n steps -/
def walkA (g : Addr → Option Obj) : Nat → Nat → List Addr → List Addr → List Addr
  | 0, _, _, all => all
  | n + 1, m, fr, all => freshA (fr.flatMap fun a => match g a with
      | some o => He.refsD o
      | none => []) m [] fun new m2 => walkA g n m2 new (all ++ new)
def rootsA (g : Addr → Option Obj) (nm : List Str) : List Addr := nm.filterMap fun x => match nsIn (He.frG g [mainGlobals]) mainGlobals x with
  | some (some (.ref a)) => some a
  | _ => none
def asZ (g : Addr → Option Obj) (nm : List Str) (n : Nat) : List Addr := freshA (rootsA g nm) ((1 <<< mainGlobals) ||| (1 <<< builtinsNs)) [] fun rs m => mainGlobals :: cStatics :: walkA g n m rs rs
def obsZG (n : Nat) (nm : List Str) (ex : List Fx) (fn : List Df) (g : Addr → Option Obj) : AlY := lookY ex fn (He.frG g (asZ g nm n))
def hookZ (n : Nat) (nm : List Str) (ex : List Fx) (fn : List Df) : PySem.W.Hook :=
  { α := AlY, obs := fun s => obsZG n nm ex fn s.heap.get?, val := fun _ => dueY fn, says := fun _ h => ∃ K : PySem.W.Frag, K.In h ∧ SaysY ex fn K,
    of := fun _ _ e => ⟨_, He.frG_in, e⟩,
    keeps := fun _ _ _ w k => w.elim fun K z => ⟨K, PySem.W.Frag.In.keeps z.1 k, z.2⟩ }
theorem obsZG_eq {n : Nat} {nm : List Str} {ex : List Fx} {fn : List Df} {g : Addr → Option Obj} {s : Shared} (h : ∀ a, g a = s.heap.get? a) : obsZG n nm ex fn g = (hookZ n nm ex fn).obs s :=
  congrArg (obsZG n nm ex fn) (funext h)
end DL

/-! DK4: facts that the head looks up, made later than DK (own work). -/
namespace DL
open PySem L2 PySem.W
/-- all that isinstance asks of an exception's class -/
structure KxC (K : PySem.W.Frag) (C : Addr) : Prop where
  xf : XfC K C
  cl : (clsIn K C).isSome = true
  at_ : findIn K (.ref C) "__class__" = some (some (.builtin "object.__class__"))
  sp : specialIn K (.builtin "object.__class__") "__get__" = some (some (.builtin "getset_descriptor.__get__"))
  tk : takesIn K (.builtin "object.__class__") = some true
  mr : mroIn K C (.type "object") = some true
def kxB (K : PySem.W.Frag) (C : Addr) : Bool := xfB K C && ((clsIn K C).isSome && (He.eqO (findIn K (.ref C) "__class__") (some (some (.builtin "object.__class__"))) && (He.eqO (specialIn K (.builtin "object.__class__") "__get__") (some (some (.builtin "getset_descriptor.__get__"))) &&
  (decide (takesIn K (.builtin "object.__class__") = some true) && decide (mroIn K C (.type "object") = some true)))))
theorem kxB_ok {K : PySem.W.Frag} {C : Addr} (h : kxB K C = true) : KxC K C := by
  obtain ⟨h1, h⟩ := He.ba h
  obtain ⟨h2, h⟩ := He.ba h
  obtain ⟨h3, h⟩ := He.ba h
  obtain ⟨h4, h⟩ := He.ba h
  obtain ⟨h5, h6⟩ := He.ba h
  exact ⟨xfB_ok h1, h2, He.eqO_ok h3, He.eqO_ok h4, of_decide_eq_true h5, of_decide_eq_true h6⟩
/-- classes of errors, each its own, all of the class b -/
def fErr (xs : List Str) (b : Str) : Fx := fun K => xs.zipIdx.all fun p => kxB K (He.ga K p.1) && (xs.zipIdx.all (fun q => decide (kitOne K (.ref (He.ga K p.1)) (.ref (He.ga K q.1)) = some (p.2 == q.2))) && (decide (kitOne K (.ref (He.ga K p.1)) (.ref (He.ga K b)) = some true) && decide (kitOne K (.ref (He.ga K p.1)) (.type "ValueError") = some true)))
structure ErrC (K : PySem.W.Frag) (xs : List Str) (b : Str) : Prop where
  kx : ∀ (i : Nat) (x : Str), xs[i]? = some x → KxC K (He.ga K x)
  kit : ∀ (i : Nat) (x : Str) (j : Nat) (y : Str), xs[i]? = some x → xs[j]? = some y → kitOne K (.ref (He.ga K x)) (.ref (He.ga K y)) = some (i == j)
  base : ∀ (i : Nat) (x : Str), xs[i]? = some x → kitOne K (.ref (He.ga K x)) (.ref (He.ga K b)) = some true
  ve : ∀ (i : Nat) (x : Str), xs[i]? = some x → kitOne K (.ref (He.ga K x)) (.type "ValueError") = some true
theorem err_ok {xs : List Str} {b : Str} {K : PySem.W.Frag} (h : fErr xs b K = true) : ErrC K xs b := by
  have at_ : ∀ (i : Nat) (x : Str), xs[i]? = some x → (x, i) ∈ xs.zipIdx := fun i x e => by
    refine List.mem_of_getElem? (i := i) ?_
    rw [List.getElem?_zipIdx, e]
    simp
  have one := fun (i : Nat) (x : Str) (e : xs[i]? = some x) => List.all_eq_true.mp h (x, i) (at_ i x e)
  refine ⟨fun i x e => kxB_ok (He.ba (one i x e)).1, fun i x j y e1 e2 => ?_, fun i x e => ?_, fun i x e => ?_⟩
  · exact of_decide_eq_true (List.all_eq_true.mp (He.ba (He.ba (one i x e1)).2).1 (y, j) (at_ j y e2))
  · exact of_decide_eq_true (He.ba (He.ba (He.ba (one i x e)).2).2).1
  · exact of_decide_eq_true (He.ba (He.ba (He.ba (one i x e)).2).2).2
end DL

/-! DK3: the head's run, its facts looked at by parts (own work). -/
namespace DL
open PySem L2 PySem.W
end DL

/-! DK5: the head's run, looked at in several runs that each keep little (own work). -/
namespace DL
open PySem L2 PySem.W HandSHeadRun
/-- what a run of the top says of its own names -/
def SeenEq (r : OpenRow) (q : Program) (M : Nat) (loose : List Str) (w : World) : Prop :=
  ∀ os : OsState, (endF (stepQ (denQ tabQ) r.prog w) M r.prog w os).map (fun s => (looksF r.prog (boot_heap w.params) s.abs, seenQ q loose (importedModules r.prog.main.body) (fun s => xlAt q [] s && recOk r.toRowW.records s) s.abs)) = some (true, openGood q loose)
/-- what a run of the top says of some facts -/
def FactEq (r : OpenRow) (n : Nat) (nm : List Str) (e : List Fx) (f : List Df) (M : Nat) (w : World) : Prop :=
  ∀ os : OsState, (endF (stepQ (denQ tabQ) r.prog w) M r.prog w os).map (fun s => obsZG n nm e f (getT s)) = some (dueY f)
theorem runEq_of {r : OpenRow} {q : Program} {n M : Nat} {nm loose : List Str} {e : List Fx} {f : List Df} {w : World} (h1 : SeenEq r q M loose w) (h2 : FactEq r n nm e f M w) :
    RunEq r q (hookZ n nm e f) (fun s => obsZG n nm e f (getT s)) M loose w := fun os => by
  obtain ⟨s, hs, x⟩ := Option.map_eq_some_iff.mp (h1 os)
  have b := h2 os
  obtain ⟨x1, x2⟩ := Prod.mk.inj x
  rw [hs] at b
  rw [hs]
  exact congrArg some (Prod.ext x1 (Prod.ext x2 (Option.some.inj b)))
end DL

namespace DL
open PySem L2 PySem.W
end DL


namespace K01
open PySem L2 DL PySem.W
abbrev top (i : Nat) : Stmt := PySem.Challenge.pw_alsoshown_k01_errors_made.main.body.getD i (.Pass ⟨0, 0, 0, 0⟩)
def clsBody : Stmt → List Stmt
  | .ClassDef (body := b) .. => b
  | _ => []
abbrev mth (i j : Nat) : Stmt := (clsBody (top i)).getD j (.Pass ⟨0, 0, 0, 0⟩)
abbrev s_law_cell : Stmt := top 29
abbrev s_law_thing : Stmt := top 30
abbrev s_law_named : Stmt := top 31
abbrev s_law_classes : Stmt := top 32
abbrev s_law_alone : Stmt := top 33
abbrev s_law : Stmt := top 34
abbrev s_BadDeed___init : Stmt := mth 16 0
abbrev s_BadLine___init : Stmt := mth 27 0
abbrev s_BadName___init : Stmt := mth 2 0
abbrev s_BadNumber___init : Stmt := mth 17 0
abbrev s_BadText___init : Stmt := mth 15 0
abbrev s_BadWalk___init : Stmt := mth 14 0
abbrev s_BadWord___init : Stmt := mth 26 0
abbrev s_Brought___init : Stmt := mth 23 0
abbrev s_Clash___init : Stmt := mth 6 0
abbrev s_NameTaken___init : Stmt := mth 3 0
abbrev s_NoLane___init : Stmt := mth 5 0
abbrev s_NoPattern___init : Stmt := mth 7 0
abbrev s_NoPost___init : Stmt := mth 4 0
abbrev s_NoRun___init : Stmt := mth 21 0
abbrev s_NotSure___init : Stmt := mth 20 0
abbrev s_NotWanted___init : Stmt := mth 25 0
abbrev s_OneRing___init : Stmt := mth 19 0
abbrev s_SameLane___init : Stmt := mth 22 0
abbrev s_StillWanted___init : Stmt := mth 24 0
abbrev s_NoRound___init : Stmt := mth 18 0
theorem sc_law_cell : FnScope ["_law_script", "_law_k"] ["_law_script", "_law_k"] (defScope s_law_cell) := ⟨rfl, rfl, rfl, by decide +kernel, rfl, by decide +kernel, by decide +kernel⟩
theorem sc_law_thing : FnScope ["_law_cell_here", "_law_k", "_law_number", "_law_some"] ["_law_cell_here", "_law_k"] (defScope s_law_thing) := ⟨rfl, rfl, rfl, by decide +kernel, rfl, by decide +kernel, by decide +kernel⟩
theorem sc_law_named : FnScope ["_law_a", "_law_some", "_law_one", "_law_kept", "_law_places", "_law_rings"] ["_law_a"] (defScope s_law_named) := ⟨rfl, rfl, rfl, by decide +kernel, rfl, by decide +kernel, by decide +kernel⟩
theorem sc_law_classes : FnScope ["_law_e", "_law_found"] ["_law_e"] (defScope s_law_classes) := ⟨rfl, rfl, rfl, by decide +kernel, rfl, by decide +kernel, by decide +kernel⟩
theorem sc_law_alone : FnScope ["_law_e", "_law_place", "_law_k", "_law_due"] ["_law_e", "_law_place"] (defScope s_law_alone) := ⟨rfl, rfl, rfl, by decide +kernel, rfl, by decide +kernel, by decide +kernel⟩
theorem sc_law : FnScope ["_law_script", "_law_a", "_law_b", "_law_c", "_law_errors", "_law_kept", "_law_one", "_law_k", "_law_three", "_law_plain"] ["_law_script"] (defScope s_law) := ⟨rfl, rfl, rfl, by decide +kernel, rfl, by decide +kernel, by decide +kernel⟩
theorem sc_BadDeed___init : FnScope ["self", "place"] ["self", "place"] (defScope s_BadDeed___init) := ⟨rfl, rfl, rfl, by decide +kernel, rfl, by decide +kernel, by decide +kernel⟩
theorem sc_BadLine___init : FnScope ["self", "line"] ["self", "line"] (defScope s_BadLine___init) := ⟨rfl, rfl, rfl, by decide +kernel, rfl, by decide +kernel, by decide +kernel⟩
theorem sc_BadName___init : FnScope ["self", "name"] ["self", "name"] (defScope s_BadName___init) := ⟨rfl, rfl, rfl, by decide +kernel, rfl, by decide +kernel, by decide +kernel⟩
theorem sc_BadNumber___init : FnScope ["self", "value"] ["self", "value"] (defScope s_BadNumber___init) := ⟨rfl, rfl, rfl, by decide +kernel, rfl, by decide +kernel, by decide +kernel⟩
theorem sc_BadText___init : FnScope ["self", "place"] ["self", "place"] (defScope s_BadText___init) := ⟨rfl, rfl, rfl, by decide +kernel, rfl, by decide +kernel, by decide +kernel⟩
theorem sc_BadWalk___init : FnScope ["self", "place"] ["self", "place"] (defScope s_BadWalk___init) := ⟨rfl, rfl, rfl, by decide +kernel, rfl, by decide +kernel, by decide +kernel⟩
theorem sc_BadWord___init : FnScope ["self", "word"] ["self", "word"] (defScope s_BadWord___init) := ⟨rfl, rfl, rfl, by decide +kernel, rfl, by decide +kernel, by decide +kernel⟩
theorem sc_Brought___init : FnScope ["self", "name"] ["self", "name"] (defScope s_Brought___init) := ⟨rfl, rfl, rfl, by decide +kernel, rfl, by decide +kernel, by decide +kernel⟩
theorem sc_Clash___init : FnScope ["self", "name"] ["self", "name"] (defScope s_Clash___init) := ⟨rfl, rfl, rfl, by decide +kernel, rfl, by decide +kernel, by decide +kernel⟩
theorem sc_NameTaken___init : FnScope ["self", "name"] ["self", "name"] (defScope s_NameTaken___init) := ⟨rfl, rfl, rfl, by decide +kernel, rfl, by decide +kernel, by decide +kernel⟩
theorem sc_NoLane___init : FnScope ["self", "name"] ["self", "name"] (defScope s_NoLane___init) := ⟨rfl, rfl, rfl, by decide +kernel, rfl, by decide +kernel, by decide +kernel⟩
theorem sc_NoPattern___init : FnScope ["self", "name"] ["self", "name"] (defScope s_NoPattern___init) := ⟨rfl, rfl, rfl, by decide +kernel, rfl, by decide +kernel, by decide +kernel⟩
theorem sc_NoPost___init : FnScope ["self", "name"] ["self", "name"] (defScope s_NoPost___init) := ⟨rfl, rfl, rfl, by decide +kernel, rfl, by decide +kernel, by decide +kernel⟩
theorem sc_NoRun___init : FnScope ["self", "name"] ["self", "name"] (defScope s_NoRun___init) := ⟨rfl, rfl, rfl, by decide +kernel, rfl, by decide +kernel, by decide +kernel⟩
theorem sc_NotSure___init : FnScope ["self", "ring"] ["self", "ring"] (defScope s_NotSure___init) := ⟨rfl, rfl, rfl, by decide +kernel, rfl, by decide +kernel, by decide +kernel⟩
theorem sc_NotWanted___init : FnScope ["self", "name"] ["self", "name"] (defScope s_NotWanted___init) := ⟨rfl, rfl, rfl, by decide +kernel, rfl, by decide +kernel, by decide +kernel⟩
theorem sc_OneRing___init : FnScope ["self", "ring"] ["self", "ring"] (defScope s_OneRing___init) := ⟨rfl, rfl, rfl, by decide +kernel, rfl, by decide +kernel, by decide +kernel⟩
theorem sc_SameLane___init : FnScope ["self", "name"] ["self", "name"] (defScope s_SameLane___init) := ⟨rfl, rfl, rfl, by decide +kernel, rfl, by decide +kernel, by decide +kernel⟩
theorem sc_StillWanted___init : FnScope ["self", "name"] ["self", "name"] (defScope s_StillWanted___init) := ⟨rfl, rfl, rfl, by decide +kernel, rfl, by decide +kernel, by decide +kernel⟩
theorem sc_NoRound___init : FnScope ["self", "first", "second", "side"] ["self", "first", "second", "side"] (defScope s_NoRound___init) := ⟨rfl, rfl, rfl, by decide +kernel, rfl, by decide +kernel, by decide +kernel⟩
/-- what the top leaves -/
def exs0 : List Fx := [fErr ["BadName", "NameTaken", "NoPost", "NoLane", "Clash", "NoPattern", "NoRun", "SameLane", "Brought", "StillWanted", "NotWanted", "BadWalk", "BadText", "BadDeed", "OneRing", "NotSure", "BadNumber", "BadWord", "BadLine", "NoRound", "EmptyWalk", "EmptyWord", "NotWalk", "NotOnePart", "NothingWanted", "NothingBack"] "ShowError", fFree "len", fFree "int", fFree "str", fFree "abs", fGlo "SameLane", fGlo "NoRun", fGlo "NoPattern", fGlo "Clash", fGlo "NoLane", fGlo "NoPost", fGlo "NameTaken", fGlo "BadName", fGlo "NotWanted", fGlo "StillWanted", fGlo "Brought", fGlo "BadDeed", fGlo "BadText", fGlo "BadWalk", fGlo "NotSure", fGlo "OneRing", fGlo "BadLine", fGlo "BadWord", fGlo "BadNumber", fFree "isinstance", fGlo "NoRound", fGlo "NotWalk", fGlo "EmptyWord", fGlo "EmptyWalk", fGlo "NothingBack"]
def exs1 : List Fx := [fGlo "NothingWanted", fGlo "NotOnePart", fFree "range", fFree "ValueError", fGlo "ShowError", fGlo "_law_classes", fGlo "_law_thing", fGlo "_law_cell", fGlo "_law_named", fFree "enumerate", fGlo "_law_alone", fX0 "NothingBack", fX0 "NothingWanted", fX0 "NotOnePart", fX0 "NotWalk", fX0 "EmptyWord", fX0 "EmptyWalk", fXc "BadDeed", fXi "BadDeed", fNoat "BadDeed" "place", fXc "BadLine", fXi "BadLine", fNoat "BadLine" "line", fXc "BadName", fXi "BadName", fNoat "BadName" "name", fXc "BadNumber", fXi "BadNumber", fNoat "BadNumber" "value", fXc "BadText"]
def exs2 : List Fx := [fXi "BadText", fNoat "BadText" "place", fXc "BadWalk", fXi "BadWalk", fNoat "BadWalk" "place", fXc "BadWord", fXi "BadWord", fNoat "BadWord" "word", fXc "Brought", fXi "Brought", fNoat "Brought" "name", fXc "Clash", fXi "Clash", fNoat "Clash" "name", fXc "NameTaken", fXi "NameTaken", fNoat "NameTaken" "name", fXc "NoLane", fXi "NoLane", fNoat "NoLane" "name", fXc "NoPattern", fXi "NoPattern", fNoat "NoPattern" "name", fXc "NoPost", fXi "NoPost", fNoat "NoPost" "name", fXc "NoRun", fXi "NoRun", fNoat "NoRun" "name", fXc "NotSure"]
def exs3 : List Fx := [fXi "NotSure", fNoat "NotSure" "ring", fXc "NotWanted", fXi "NotWanted", fNoat "NotWanted" "name", fXc "OneRing", fXi "OneRing", fNoat "OneRing" "ring", fXc "SameLane", fXi "SameLane", fNoat "SameLane" "name", fXc "StillWanted", fXi "StillWanted", fNoat "StillWanted" "name", fXc "NoRound", fXi "NoRound", fNoat "NoRound" "first", fNoat "NoRound" "second", fNoat "NoRound" "side", fGlo "law"]
abbrev exs : List Fx := exs0 ++ exs1 ++ exs2 ++ exs3
def dfs0 : List Df := [⟨fun K => (He.ga K "_law_cell"), "_law_cell", "_law_cell", defArgs s_law_cell, defBody s_law_cell, defScope s_law_cell, fun K => []⟩, ⟨fun K => (He.ga K "_law_thing"), "_law_thing", "_law_thing", defArgs s_law_thing, defBody s_law_thing, defScope s_law_thing, fun K => []⟩, ⟨fun K => (He.ga K "_law_named"), "_law_named", "_law_named", defArgs s_law_named, defBody s_law_named, defScope s_law_named, fun K => []⟩, ⟨fun K => (He.ga K "_law_classes"), "_law_classes", "_law_classes", defArgs s_law_classes, defBody s_law_classes, defScope s_law_classes, fun K => []⟩, ⟨fun K => (He.ga K "_law_alone"), "_law_alone", "_law_alone", defArgs s_law_alone, defBody s_law_alone, defScope s_law_alone, fun K => []⟩, ⟨fun K => (He.ga K "law"), "law", "law", defArgs s_law, defBody s_law, defScope s_law, fun K => []⟩, ⟨fun K => (He.ma K (He.ga K "BadDeed") "__init__"), "__init__", "BadDeed.__init__", defArgs s_BadDeed___init, defBody s_BadDeed___init, defScope s_BadDeed___init, fun K => []⟩, ⟨fun K => (He.ma K (He.ga K "BadLine") "__init__"), "__init__", "BadLine.__init__", defArgs s_BadLine___init, defBody s_BadLine___init, defScope s_BadLine___init, fun K => []⟩, ⟨fun K => (He.ma K (He.ga K "BadName") "__init__"), "__init__", "BadName.__init__", defArgs s_BadName___init, defBody s_BadName___init, defScope s_BadName___init, fun K => []⟩, ⟨fun K => (He.ma K (He.ga K "BadNumber") "__init__"), "__init__", "BadNumber.__init__", defArgs s_BadNumber___init, defBody s_BadNumber___init, defScope s_BadNumber___init, fun K => []⟩, ⟨fun K => (He.ma K (He.ga K "BadText") "__init__"), "__init__", "BadText.__init__", defArgs s_BadText___init, defBody s_BadText___init, defScope s_BadText___init, fun K => []⟩, ⟨fun K => (He.ma K (He.ga K "BadWalk") "__init__"), "__init__", "BadWalk.__init__", defArgs s_BadWalk___init, defBody s_BadWalk___init, defScope s_BadWalk___init, fun K => []⟩, ⟨fun K => (He.ma K (He.ga K "BadWord") "__init__"), "__init__", "BadWord.__init__", defArgs s_BadWord___init, defBody s_BadWord___init, defScope s_BadWord___init, fun K => []⟩, ⟨fun K => (He.ma K (He.ga K "Brought") "__init__"), "__init__", "Brought.__init__", defArgs s_Brought___init, defBody s_Brought___init, defScope s_Brought___init, fun K => []⟩, ⟨fun K => (He.ma K (He.ga K "Clash") "__init__"), "__init__", "Clash.__init__", defArgs s_Clash___init, defBody s_Clash___init, defScope s_Clash___init, fun K => []⟩, ⟨fun K => (He.ma K (He.ga K "NameTaken") "__init__"), "__init__", "NameTaken.__init__", defArgs s_NameTaken___init, defBody s_NameTaken___init, defScope s_NameTaken___init, fun K => []⟩, ⟨fun K => (He.ma K (He.ga K "NoLane") "__init__"), "__init__", "NoLane.__init__", defArgs s_NoLane___init, defBody s_NoLane___init, defScope s_NoLane___init, fun K => []⟩, ⟨fun K => (He.ma K (He.ga K "NoPattern") "__init__"), "__init__", "NoPattern.__init__", defArgs s_NoPattern___init, defBody s_NoPattern___init, defScope s_NoPattern___init, fun K => []⟩, ⟨fun K => (He.ma K (He.ga K "NoPost") "__init__"), "__init__", "NoPost.__init__", defArgs s_NoPost___init, defBody s_NoPost___init, defScope s_NoPost___init, fun K => []⟩, ⟨fun K => (He.ma K (He.ga K "NoRun") "__init__"), "__init__", "NoRun.__init__", defArgs s_NoRun___init, defBody s_NoRun___init, defScope s_NoRun___init, fun K => []⟩, ⟨fun K => (He.ma K (He.ga K "NotSure") "__init__"), "__init__", "NotSure.__init__", defArgs s_NotSure___init, defBody s_NotSure___init, defScope s_NotSure___init, fun K => []⟩, ⟨fun K => (He.ma K (He.ga K "NotWanted") "__init__"), "__init__", "NotWanted.__init__", defArgs s_NotWanted___init, defBody s_NotWanted___init, defScope s_NotWanted___init, fun K => []⟩, ⟨fun K => (He.ma K (He.ga K "OneRing") "__init__"), "__init__", "OneRing.__init__", defArgs s_OneRing___init, defBody s_OneRing___init, defScope s_OneRing___init, fun K => []⟩, ⟨fun K => (He.ma K (He.ga K "SameLane") "__init__"), "__init__", "SameLane.__init__", defArgs s_SameLane___init, defBody s_SameLane___init, defScope s_SameLane___init, fun K => []⟩, ⟨fun K => (He.ma K (He.ga K "StillWanted") "__init__"), "__init__", "StillWanted.__init__", defArgs s_StillWanted___init, defBody s_StillWanted___init, defScope s_StillWanted___init, fun K => []⟩, ⟨fun K => (He.ma K (He.ga K "NoRound") "__init__"), "__init__", "NoRound.__init__", defArgs s_NoRound___init, defBody s_NoRound___init, defScope s_NoRound___init, fun K => []⟩]
abbrev dfs : List Df := dfs0
def names0 : List Str := ["ShowError", "BadName", "NameTaken", "NoPost", "NoLane", "Clash", "NoPattern", "EmptyWalk", "EmptyWord", "NotWalk", "NotOnePart", "NothingWanted", "NothingBack", "BadWalk", "BadText", "BadDeed", "BadNumber", "NoRound", "OneRing", "NotSure", "NoRun", "SameLane", "Brought", "StillWanted", "NotWanted", "BadWord", "BadLine", "_law_cell", "_law_thing", "_law_named"]
def names1 : List Str := ["_law_classes", "_law_alone"]
abbrev names : List Str := names0 ++ names1
abbrev R : PySem.W.OpenRow := PySem.W.OpenLaw.row PySem.Challenge.rw_alsoshown_k01_errors_made
abbrev qv : Program := view R.prog [34]
def rts0 : List Str := ["_law_cell", "_law_thing", "_law_named", "_law_classes", "_law_alone", "law", "BadDeed", "BadLine", "BadName", "BadNumber", "BadText", "BadWalk", "BadWord", "Brought", "Clash", "NameTaken", "NoLane", "NoPattern", "NoPost", "NoRun", "NotSure", "NotWanted", "OneRing", "SameLane", "StillWanted", "NoRound", "EmptyWalk", "EmptyWord", "NotWalk", "NotOnePart"]
def rts1 : List Str := ["NothingWanted", "NothingBack", "ShowError"]
abbrev rts : List Str := rts0 ++ rts1
abbrev hk : PySem.W.Hook := hookZ 5 rts exs dfs
def ob (s : PySem.W.SharedT) : AlY := obsZG 5 rts exs dfs (HandSHeadRun.getT s)
theorem ob_eq (s : PySem.W.SharedT) : ob s = hk.obs s.abs := obsZG_eq (HandSHeadRun.getT_eq s)
theorem seen0 (w : World) : SeenEq R qv 14000 names (w.withFollow "special-get-raises" false) := by
  intro os
  kernel_rfl
theorem fact0a (w : World) : FactEq R 5 rts (exs0 ++ exs1 ++ exs2 ++ exs3) (dfs0) 14000 (w.withFollow "special-get-raises" false) := by
  intro os
  kernel_rfl
theorem run0 (w : World) : HandSHeadRun.RunEq R qv (hookZ 5 rts (exs0 ++ exs1 ++ exs2 ++ exs3) (dfs0)) (fun s => obsZG 5 rts (exs0 ++ exs1 ++ exs2 ++ exs3) (dfs0) (HandSHeadRun.getT s)) 14000 names (w.withFollow "special-get-raises" false) := by
  have h := fact0a w
  try simp only [List.append_assoc, List.append_nil, List.nil_append] at h
  refine runEq_of (seen0 w) ?_
  try simp only [List.append_assoc, List.append_nil, List.nil_append]
  exact h
theorem seen1 (w : World) : SeenEq R qv 14000 names (w.withFollow "special-get-raises" true) := by
  intro os
  kernel_rfl
theorem fact1a (w : World) : FactEq R 5 rts (exs0 ++ exs1 ++ exs2 ++ exs3) (dfs0) 14000 (w.withFollow "special-get-raises" true) := by
  intro os
  kernel_rfl
theorem run1 (w : World) : HandSHeadRun.RunEq R qv (hookZ 5 rts (exs0 ++ exs1 ++ exs2 ++ exs3) (dfs0)) (fun s => obsZG 5 rts (exs0 ++ exs1 ++ exs2 ++ exs3) (dfs0) (HandSHeadRun.getT s)) 14000 names (w.withFollow "special-get-raises" true) := by
  have h := fact1a w
  try simp only [List.append_assoc, List.append_nil, List.nil_append] at h
  refine runEq_of (seen1 w) ?_
  try simp only [List.append_assoc, List.append_nil, List.nil_append]
  exact h
theorem run (w : World) : HandSHeadRun.RunEq R qv hk ob 14000 names w := PySem.W.byRow2 "special-get-raises" (P := fun w => HandSHeadRun.RunEq R qv hk ob 14000 names w) run0 run1 w
end K01

/-! DA: a logic of data over the readings: frozen data, views, cells (own work). -/
namespace DL
open PySem L2

/-- data -/
inductive D where
  | non | bl (b : Bool) | int (i : Int) | str (s : Str)
  | tup (xs : List D) | lst (xs : List D) | dic (kvs : List (Key × D)) | dit (kvs : List (List Key × D))
  | ins (C : Addr) (fs : List (Str × D)) | ty (n : String) | adr (a : Addr)
  | din (w : World) (kvs : List (NestedKey × D))
  | exc (C : Addr) (fs : List (Str × D))

/-! ### dicts whose keys are tuples of any depth -/
/-- an entry as it lies in the dict's object -/
def entN (w : World) (q : NestedKey × Addr × Value) : DictEntry := ⟨q.1.hash w, .ref q.2.1, q.2.2⟩
/-- the dict at a: its keys (each at its address), its values -/
def DnO (w : World) (a : Addr) (xs : List (NestedKey × Addr × V)) : HO := .ext fun h => xs.length ≤ sizeLine ∧ (a == sysModules) = false ∧ ∃ qs : List (NestedKey × Addr × Value),
  Paired (fun p q => p.1 = q.1 ∧ p.2.1 = q.2.1 ∧ RelV p.2.2 q.2.2) xs qs ∧ ∃ o es ep, h.get? a = some o ∧ o.ExactDict ∧ o.data = .dict es ep ∧ es.toList = qs.map (entN w) ∧ (qs.map (·.1)).Nodup
/-- an exception of the class cls that nobody raises, its dict at d -/
def ExV (cls : Value) (d : Option Addr) (a : Addr) : HO := .ext fun h => ∃ (oe : Obj) (vs : Array Value), h.get? a = some oe ∧ Zc cls d oe ∧ oe.data = .fields vs
mutual
/-- a thing that is the key -/
def RkN (K : PySem.W.Frag) (F : Hp) : NestedKey → V → Prop
  | .none, v => v = .non
  | .num i, v => v = .int i
  | .text s, v => v = .str s
  | .tup ks, v => ∃ a xs, v = .ref a ∧ SqT K F a xs ∧ RkL K F ks xs
def RkL (K : PySem.W.Frag) (F : Hp) : List NestedKey → List V → Prop
  | [], xs => xs = []
  | k :: ks, xs => ∃ x ys, xs = x :: ys ∧ RkN K F k x ∧ RkL K F ks ys
end

mutual
def Rp (K : PySem.W.Frag) (F : Hp) : D → V → Prop
  | .non, v => v = .non
  | .bl b, v => v = .bl b
  | .int i, v => v = .int i
  | .str s, v => v = .str s
  | .ty n, v => v = .ty n
  | .adr a, v => v = .ref a
  | .tup ds, v => ∃ a xs, v = .ref a ∧ SqT K F a xs ∧ RpL K F ds xs
  | .lst ds, v => ∃ a xs, v = .ref a ∧ Rd F a (.lst xs) ∧ RpL K F ds xs
  | .dic ds, v => ∃ a xs, v = .ref a ∧ Rd F a (.dK xs) ∧ RpK K F ds xs
  | .dit ds, v => ∃ a xs, v = .ref a ∧ Rd F a (.dT xs) ∧ RpT K F ds xs
  | .ins C ds, v => ∃ a dx xs, v = .ref a ∧ Rd F a (.ins C dx xs) ∧ RpF K F ds xs
  | .din w ds, v => ∃ a xs, v = .ref a ∧ Rd F a (DnO w a xs) ∧ RpN K F ds xs
  | .exc C ds, v => ∃ a d xs, v = .ref a ∧ Rd F a (ExV (.ref C) d a) ∧ ((d = none ∧ xs = []) ∨ ∃ dd, d = some dd ∧ Rd F dd (.xd xs)) ∧ RpF K F ds xs
def RpN (K : PySem.W.Frag) (F : Hp) : List (NestedKey × D) → List (NestedKey × Addr × V) → Prop
  | [], xs => xs = []
  | (k, d) :: ds, xs => ∃ b x ys, xs = (k, b, x) :: ys ∧ (RkN K F k (.ref b) ∧ k.depth ≤ 8) ∧ Rp K F d x ∧ RpN K F ds ys
def RpL (K : PySem.W.Frag) (F : Hp) : List D → List V → Prop
  | [], xs => xs = []
  | d :: ds, xs => ∃ x ys, xs = x :: ys ∧ Rp K F d x ∧ RpL K F ds ys
def RpK (K : PySem.W.Frag) (F : Hp) : List (Key × D) → List (Key × V) → Prop
  | [], xs => xs = []
  | (k, d) :: ds, xs => ∃ x ys, xs = (k, x) :: ys ∧ Rp K F d x ∧ RpK K F ds ys
def RpT (K : PySem.W.Frag) (F : Hp) : List (List Key × D) → List (List Key × V) → Prop
  | [], xs => xs = []
  | (k, d) :: ds, xs => ∃ x ys, xs = (k, x) :: ys ∧ Rp K F d x ∧ RpT K F ds ys
def RpF (K : PySem.W.Frag) (F : Hp) : List (Str × D) → List (Str × V) → Prop
  | [], xs => xs = []
  | (k, d) :: ds, xs => ∃ x ys, xs = (k, x) :: ys ∧ Rp K F d x ∧ RpF K F ds ys
end


def isfz : HO → Bool
  | .frz _ _ => true
  | _ => false
/-- nothing of F is locked -/
def Nz (F : Hp) : Prop := ∀ a u, F a = some u → isfz u = false
/-- what a loop may lock -/
def lk : HO → Bool
  | .dK _ => true
  | .dT _ => true
  | .lst _ => true
  | .ext _ => true
  | _ => false
/-- all that F says may be read in H -/
def Exz (F H : Hp) : Prop := ∀ a u, F a = some u → H a = some u ∨ (lk u = true ∧ ∃ o, H a = some (.frz o u))
theorem exz_rd {F H : Hp} (e : Exz F H) {a : Addr} {u : HO} (h : F a = some u) : Rd H a u := by
  rcases e a u h with q | ⟨_, o, q⟩
  · exact .inl q
  · exact .inr ⟨o, q⟩
/-- what is never locked stands as it is -/
theorem Exz.at {F H : Hp} (e : Exz F H) {a : Addr} {u : HO} (h : F a = some u) (k : lk u = false) : H a = some u := by
  rcases e a u h with q | ⟨k2, _⟩
  · exact q
  · rw [k] at k2
    cases k2
/-- all of B stands in H as it is -/
def Sub (B H : Hp) : Prop := ∀ a o, B a = some o → H a = some o
theorem Sub.refl (H : Hp) : Sub H H := fun _ _ h => h
theorem Sub.trans {F G H : Hp} (a : Sub F G) (b : Sub G H) : Sub F H := fun x u h => b x u (a x u h)
theorem Sub.exz {B H : Hp} (e : Sub B H) : Exz B H := fun a u h => .inl (e _ _ h)
theorem Sub.new {H : Hp} {p : Addr} {o : HO} (h : H p = none) : Sub H (upd H p o) := fun a u e => by
  rw [upd_ne (ne_of_none e h)]
  exact e
theorem Sub.free {F H : Hp} (e : Sub F H) {a : Addr} (h : H a = none) : F a = none := by
  cases q : F a with
  | none => rfl
  | some o =>
    rw [e a o q] at h
    cases h
theorem rd_ne {H : Hp} {a : Addr} {u : HO} (h : Rd H a u) : H a ≠ none := by
  rcases h with h | ⟨o, h⟩ <;> rw [h] <;> exact fun q => by cases q
theorem Exz.free {F H : Hp} (e : Exz F H) {a : Addr} (h : H a = none) : F a = none := by
  cases q : F a with
  | none => rfl
  | some o => exact absurd h (rd_ne (exz_rd e q))
theorem Exz.rd {F H : Hp} (e : Exz F H) (n : Nz F) {a : Addr} {u : HO} (h : Rd F a u) : Rd H a u := by
  rcases h with h | ⟨o, h⟩
  · exact exz_rd e h
  · have := n a _ h
    cases this
theorem Exz.sub {F G H : Hp} (a : Exz F G) (b : Sub G H) : Exz F H := fun x u h => by
  rcases a x u h with q | ⟨k, o, q⟩
  · exact .inl (b _ _ q)
  · exact .inr ⟨k, o, b _ _ q⟩
theorem sqT_mono {K : PySem.W.Frag} {F H : Hp} {a : Addr} {xs : List V} (e : Exz F H) (n : Nz F) (h : SqT K F a xs) : SqT K H a xs := by
  rcases h with h | h
  · exact .inl (e.rd n h)
  · exact .inr h
section
variable {K : PySem.W.Frag} {F G : Hp}
mutual
theorem RkN.mono (e : Exz F G) (n : Nz F) : ∀ (k : NestedKey) (v : V), RkN K F k v → RkN K G k v
  | .none, _, h => h
  | .num _, _, h => h
  | .text _, _, h => h
  | .tup ks, v, h => by
    obtain ⟨a, xs, e1, h1, h2⟩ := h
    exact ⟨a, xs, e1, sqT_mono e n h1, RkL.mono e n ks xs h2⟩
theorem RkL.mono (e : Exz F G) (n : Nz F) : ∀ (ks : List NestedKey) (xs : List V), RkL K F ks xs → RkL K G ks xs
  | [], _, h => h
  | k :: ks, xs, h => by
    obtain ⟨x, ys, e1, h1, h2⟩ := h
    exact ⟨x, ys, e1, RkN.mono e n k x h1, RkL.mono e n ks ys h2⟩
end
mutual
theorem Rp.mono (e : Exz F G) (n : Nz F) : ∀ (d : D) (v : V), Rp K F d v → Rp K G d v
  | .non, _, h => h
  | .bl _, _, h => h
  | .int _, _, h => h
  | .str _, _, h => h
  | .ty _, _, h => h
  | .adr _, _, h => h
  | .tup ds, v, h => by
    obtain ⟨a, xs, e1, h1, h2⟩ := h
    exact ⟨a, xs, e1, sqT_mono e n h1, RpL.mono e n ds xs h2⟩
  | .lst ds, v, h => by
    obtain ⟨a, xs, e1, h1, h2⟩ := h
    exact ⟨a, xs, e1, e.rd n h1, RpL.mono e n ds xs h2⟩
  | .dic ds, v, h => by
    obtain ⟨a, xs, e1, h1, h2⟩ := h
    exact ⟨a, xs, e1, e.rd n h1, RpK.mono e n ds xs h2⟩
  | .dit ds, v, h => by
    obtain ⟨a, xs, e1, h1, h2⟩ := h
    exact ⟨a, xs, e1, e.rd n h1, RpT.mono e n ds xs h2⟩
  | .ins C ds, v, h => by
    obtain ⟨a, dx, xs, e1, h1, h2⟩ := h
    exact ⟨a, dx, xs, e1, e.rd n h1, RpF.mono e n ds xs h2⟩
  | .din w ds, v, h => by
    obtain ⟨a, xs, e1, h1, h2⟩ := h
    exact ⟨a, xs, e1, e.rd n h1, RpN.mono e n ds xs h2⟩
  | .exc C ds, v, h => by
    obtain ⟨a, d, xs, e1, h1, h3, h2⟩ := h
    exact ⟨a, d, xs, e1, e.rd n h1, h3.imp id fun ⟨dd, q1, q2⟩ => ⟨dd, q1, e.rd n q2⟩, RpF.mono e n ds xs h2⟩
theorem RpN.mono (e : Exz F G) (n : Nz F) : ∀ (ds : List (NestedKey × D)) (xs : List (NestedKey × Addr × V)), RpN K F ds xs → RpN K G ds xs
  | [], _, h => h
  | (k, d) :: ds, xs, h => by
    obtain ⟨b, x, ys, e1, h0, h1, h2⟩ := h
    exact ⟨b, x, ys, e1, ⟨RkN.mono e n k _ h0.1, h0.2⟩, Rp.mono e n d x h1, RpN.mono e n ds ys h2⟩
theorem RpL.mono (e : Exz F G) (n : Nz F) : ∀ (ds : List D) (xs : List V), RpL K F ds xs → RpL K G ds xs
  | [], _, h => h
  | d :: ds, xs, h => by
    obtain ⟨x, ys, e1, h1, h2⟩ := h
    exact ⟨x, ys, e1, Rp.mono e n d x h1, RpL.mono e n ds ys h2⟩
theorem RpK.mono (e : Exz F G) (n : Nz F) : ∀ (ds : List (Key × D)) (xs : List (Key × V)), RpK K F ds xs → RpK K G ds xs
  | [], _, h => h
  | (k, d) :: ds, xs, h => by
    obtain ⟨x, ys, e1, h1, h2⟩ := h
    exact ⟨x, ys, e1, Rp.mono e n d x h1, RpK.mono e n ds ys h2⟩
theorem RpT.mono (e : Exz F G) (n : Nz F) : ∀ (ds : List (List Key × D)) (xs : List (List Key × V)), RpT K F ds xs → RpT K G ds xs
  | [], _, h => h
  | (k, d) :: ds, xs, h => by
    obtain ⟨x, ys, e1, h1, h2⟩ := h
    exact ⟨x, ys, e1, Rp.mono e n d x h1, RpT.mono e n ds ys h2⟩
theorem RpF.mono (e : Exz F G) (n : Nz F) : ∀ (ds : List (Str × D)) (xs : List (Str × V)), RpF K F ds xs → RpF K G ds xs
  | [], _, h => h
  | (k, d) :: ds, xs, h => by
    obtain ⟨x, ys, e1, h1, h2⟩ := h
    exact ⟨x, ys, e1, Rp.mono e n d x h1, RpF.mono e n ds ys h2⟩
end
end

/-! ### worlds -/
/-- what may be read of B and F together -/
def uni (B F : Hp) : Hp := fun a => match F a with
  | some o => some o
  | none => match B a with
    | some (.frz _ u) => if lk u then some u else none
    | x => x
inductive W where
  | val (d : D) | vw (d : D)
def WOk (K : PySem.W.Frag) (B F : Hp) (v : V) : W → Prop
  | .val d => Rp K F d v
  | .vw d => Rp K (uni B F) d v
inductive Nd where
  | lst (ds : List D) | dic (ds : List (Key × D)) | dit (ds : List (List Key × D)) | ldic (o : Obj) (xs : List (Key × V)) (ds : List (Key × D)) | ins (C : Addr) (ds : List (Str × D)) | xd (ds : List (Str × D))
  | din (w : World) (ds : List (NestedKey × D))
def NdOk (K : PySem.W.Frag) (F H : Hp) (a : Addr) : Nd → Prop
  | .lst ds => ∃ xs, H a = some (.lst xs) ∧ RpL K F ds xs
  | .dic ds => ∃ xs, H a = some (.dK xs) ∧ RpK K F ds xs
  | .dit ds => ∃ xs, H a = some (.dT xs) ∧ RpT K F ds xs
  | .ldic o xs ds => H a = some (.frz o (.dK xs)) ∧ RpK K F ds xs
  | .ins C ds => ∃ dx xs, H a = some (.ins C dx xs) ∧ RpF K F ds xs
  | .xd ds => ∃ xs, H a = some (.xd xs) ∧ RpF K F ds xs
  | .din w ds => ∃ xs, H a = some (DnO w a xs) ∧ RpN K F ds xs
abbrev Cells := List (Addr × Nd)
/-- F has grown, off B -/
structure Gr (B F F' : Hp) : Prop where
  sub : Sub F F'
  off : ∀ a, F a = none → B a ≠ none → F' a = none
theorem Gr.refl (B F : Hp) : Gr B F F := ⟨Sub.refl F, fun _ h _ => h⟩
theorem Gr.trans {B F G H : Hp} (a : Gr B F G) (b : Gr B G H) : Gr B F H := ⟨a.sub.trans b.sub, fun x h n => b.off x (a.off x h n) n⟩
/-- the state by data, over the frozen F: the slots, the cells, what is held on the way -/
structure EnF (K : PySem.W.Frag) (B F : Hp) (ro : List (Option W)) (ka : Cells) (ta : List (V × W)) (sg : L2.St) (H : Hp) : Prop where
  nz : Nz F
  fz : Exz F H
  fr : Sub B H
  nd : (ka.map (·.1)).Nodup
  ce : ∀ p ∈ ka, F p.1 = none ∧ B p.1 = none ∧ NdOk K F H p.1 p.2
  ln : sg.length = ro.length
  sl : ∀ (i : Nat) (w : W), ro[i]? = some (some w) → ∃ v, sg[i]? = some (some v) ∧ WOk K B F v w
  tm : ∀ p ∈ ta, WOk K B F p.1 p.2
def En (K : PySem.W.Frag) (B F0 : Hp) (ro : List (Option W)) (ka : Cells) (ta : List (V × W)) (sg : L2.St) (H : Hp) : Prop :=
  ∃ F, Gr B F0 F ∧ EnF K B F ro ka ta sg H

theorem uni_nz {B F : Hp} (n : Nz F) : Nz (uni B F) := fun a u h => by
  unfold uni at h
  split at h
  · rename_i o q
    exact n a u (q.trans h)
  · split at h
    · rename_i ob x q
      split at h
      · rename_i hx
        cases h
        cases u <;> first | rfl | cases hx
      · cases h
    · rename_i x q
      cases u with
      | frz ob z => exact absurd h (q ob z)
      | _ => rfl
theorem uni_exz {B F H : Hp} (fz : Exz F H) (fr : Sub B H) : Exz (uni B F) H := fun a u h => by
  unfold uni at h
  split at h
  · rename_i o q
    exact fz a u (q.trans h)
  · split at h
    · rename_i ob x q
      split at h
      · rename_i hx
        cases h
        exact .inr ⟨hx, ob, fr _ _ q⟩
      · cases h
    · exact .inl (fr _ _ h)
theorem uni_of {B F : Hp} {a : Addr} {u : HO} (h : F a = some u) : uni B F a = some u := by
  unfold uni
  rw [h]
theorem uni_sub {B F : Hp} : Sub F (uni B F) := fun _ _ h => uni_of h
theorem uni_gr {B F F' : Hp} (g : Gr B F F') : Sub (uni B F) (uni B F') := fun a u h => by
  unfold uni at h ⊢
  cases q : F a with
  | some o =>
    rw [q] at h
    rw [g.sub a o q]
    exact h
  | none =>
    rw [q] at h
    have hb : B a ≠ none := fun z => by
      rw [z] at h
      cases h
    rw [g.off a q hb]
    exact h
theorem wok_gr {K : PySem.W.Frag} {B F F' : Hp} (n : Nz F) (g : Gr B F F') {v : V} {w : W} (h : WOk K B F v w) : WOk K B F' v w := by
  cases w with
  | val d => exact Rp.mono g.sub.exz n d v h
  | vw d => exact Rp.mono (uni_gr g).exz (uni_nz n) d v h
/-- frozen data may be viewed -/
theorem wok_vw {K : PySem.W.Frag} {B F : Hp} (n : Nz F) {v : V} {d : D} (h : WOk K B F v (.val d)) : WOk K B F v (.vw d) := Rp.mono uni_sub.exz n d v h
theorem ndok_gr {K : PySem.W.Frag} {B F F' H : Hp} (n : Nz F) (g : Gr B F F') {a : Addr} {x : Nd} (h : NdOk K F H a x) : NdOk K F' H a x := by
  cases x with
  | lst ds => obtain ⟨xs, e, r⟩ := h; exact ⟨xs, e, RpL.mono g.sub.exz n _ _ r⟩
  | dic ds => obtain ⟨xs, e, r⟩ := h; exact ⟨xs, e, RpK.mono g.sub.exz n _ _ r⟩
  | dit ds => obtain ⟨xs, e, r⟩ := h; exact ⟨xs, e, RpT.mono g.sub.exz n _ _ r⟩
  | ldic o xs ds => obtain ⟨e, r⟩ := h; exact ⟨e, RpK.mono g.sub.exz n _ _ r⟩
  | ins C ds => obtain ⟨dx, xs, e, r⟩ := h; exact ⟨dx, xs, e, RpF.mono g.sub.exz n _ _ r⟩
  | xd ds => obtain ⟨xs, e, r⟩ := h; exact ⟨xs, e, RpF.mono g.sub.exz n _ _ r⟩
  | din w ds => obtain ⟨xs, e, r⟩ := h; exact ⟨xs, e, RpN.mono g.sub.exz n _ _ r⟩
/-- the address where a node stands is taken -/
theorem ndok_ne {K : PySem.W.Frag} {F H : Hp} {a : Addr} {x : Nd} (h : NdOk K F H a x) : H a ≠ none := by
  cases x with
  | lst ds => obtain ⟨xs, e, r⟩ := h; rw [e]; exact fun q => by cases q
  | dic ds => obtain ⟨xs, e, r⟩ := h; rw [e]; exact fun q => by cases q
  | dit ds => obtain ⟨xs, e, r⟩ := h; rw [e]; exact fun q => by cases q
  | ldic o xs ds => obtain ⟨e, r⟩ := h; rw [e]; exact fun q => by cases q
  | ins C ds => obtain ⟨dx, xs, e, r⟩ := h; rw [e]; exact fun q => by cases q
  | xd ds => obtain ⟨xs, e, r⟩ := h; rw [e]; exact fun q => by cases q
  | din w ds => obtain ⟨xs, e, r⟩ := h; rw [e]; exact fun q => by cases q
theorem ndok_at {K : PySem.W.Frag} {F H H' : Hp} {a : Addr} {x : Nd} (e : H' a = H a) (h : NdOk K F H a x) : NdOk K F H' a x := by
  cases x with
  | lst ds => obtain ⟨xs, q, r⟩ := h; exact ⟨xs, e.trans q, r⟩
  | dic ds => obtain ⟨xs, q, r⟩ := h; exact ⟨xs, e.trans q, r⟩
  | dit ds => obtain ⟨xs, q, r⟩ := h; exact ⟨xs, e.trans q, r⟩
  | ldic o xs ds => obtain ⟨q, r⟩ := h; exact ⟨e.trans q, r⟩
  | ins C ds => obtain ⟨dx, xs, q, r⟩ := h; exact ⟨dx, xs, e.trans q, r⟩
  | xd ds => obtain ⟨xs, q, r⟩ := h; exact ⟨xs, e.trans q, r⟩
  | din w ds => obtain ⟨xs, q, r⟩ := h; exact ⟨xs, e.trans q, r⟩
section
variable {K : PySem.W.Frag} {B F F' F0 : Hp} {ro : List (Option W)} {ka : Cells} {ta : List (V × W)} {sg : L2.St} {H : Hp}
/-- a new object is laid as frozen data -/
theorem EnF.lay (e : EnF K B F ro ka ta sg H) {p : Addr} {o : HO} (hp : H p = none) (hn : isfz o = false) : EnF K B (upd F p o) ro ka ta sg (upd H p o) ∧ Gr B F (upd F p o) := by
  have fp : F p = none := e.fz.free hp
  have bp : B p = none := e.fr.free hp
  have g : Gr B F (upd F p o) := ⟨Sub.new fp, fun a h1 h2 => by
    have ne : a ≠ p := fun q => h2 (q ▸ bp)
    rw [upd_ne ne]
    exact h1⟩
  refine ⟨⟨fun a u h => ?_, fun a u h => ?_, fun a u h => ?_, e.nd, fun q hq => ?_, e.ln, fun i w h => ?_, fun q hq => wok_gr e.nz g (e.tm q hq)⟩, g⟩
  · by_cases ha : a = p
    · subst ha; rw [upd_same] at h; cases h; exact hn
    · rw [upd_ne ha] at h; exact e.nz a u h
  · by_cases ha : a = p
    · subst ha; rw [upd_same] at h; cases h; exact .inl upd_same
    · rw [upd_ne ha] at h; exact e.fz.sub (Sub.new hp) a u h
  · have ha : a ≠ p := ne_of_none h bp
    rw [upd_ne ha]; exact e.fr a u h
  · obtain ⟨h1, h2, h3⟩ := e.ce q hq
    have nq : q.1 ≠ p := fun z => ndok_ne h3 (z ▸ hp)
    refine ⟨by rw [upd_ne nq]; exact h1, h2, ndok_at (upd_ne nq) (ndok_gr e.nz g h3)⟩
  · obtain ⟨v, h1, h2⟩ := e.sl i w h
    exact ⟨v, h1, wok_gr e.nz g h2⟩
/-- a new object is laid as a cell -/
theorem EnF.cell (e : EnF K B F ro ka ta sg H) {p : Addr} {o : HO} (hp : H p = none) {n : Nd} (hn : NdOk K F (upd H p o) p n) : EnF K B F ro (ka ++ [(p, n)]) ta sg (upd H p o) := by
  refine ⟨e.nz, e.fz.sub (Sub.new hp), e.fr.trans (Sub.new hp), ?_, fun q hq => ?_, e.ln, e.sl, e.tm⟩
  · rw [List.map_append, List.nodup_append]
    refine ⟨e.nd, by simp, fun a ha b hb => ?_⟩
    obtain ⟨q, hq, rfl⟩ := List.mem_map.mp ha
    simp at hb
    subst hb
    exact fun z => ndok_ne (e.ce q hq).2.2 (z ▸ hp)
  · rcases List.mem_append.mp hq with hq | hq
    · obtain ⟨h1, h2, h3⟩ := e.ce q hq
      have nq : q.1 ≠ p := fun z => ndok_ne h3 (z ▸ hp)
      exact ⟨h1, h2, ndok_at (upd_ne nq) h3⟩
    · simp at hq
      subst hq
      exact ⟨e.fz.free hp, e.fr.free hp, hn⟩
theorem EnF.push (e : EnF K B F ro ka ta sg H) {v : V} {w : W} (h : WOk K B F v w) : EnF K B F ro ka ((v, w) :: ta) sg H :=
  ⟨e.nz, e.fz, e.fr, e.nd, e.ce, e.ln, e.sl, fun p hp => (List.mem_cons.mp hp).elim (fun z => z ▸ h) (e.tm p)⟩
theorem EnF.held (e : EnF K B F ro ka ta sg H) {ta' : List (V × W)} (h : ∀ p ∈ ta', p ∈ ta) : EnF K B F ro ka ta' sg H :=
  ⟨e.nz, e.fz, e.fr, e.nd, e.ce, e.ln, e.sl, fun p hp => e.tm p (h p hp)⟩
/-- a slot is set -/
theorem EnF.set (e : EnF K B F ro ka ta sg H) {v : V} {w : W} (h : WOk K B F v w) (i : Nat) : EnF K B F (ro.set i (some w)) ka ta (sg.set i (some v)) H := by
  refine ⟨e.nz, e.fz, e.fr, e.nd, e.ce, by rw [List.length_set, List.length_set, e.ln], fun j w' hj => ?_, e.tm⟩
  by_cases hij : i = j
  · subst hij
    have hi : i < ro.length := by
      have := (List.getElem?_eq_some_iff.mp hj).1
      rwa [List.length_set] at this
    rw [List.getElem?_set_self hi] at hj
    cases hj
    exact ⟨v, by rw [List.getElem?_set_self (by rw [e.ln]; exact hi)], h⟩
  · rw [List.getElem?_set_ne hij] at hj ⊢
    exact e.sl j w' hj
/-- another frame: its slots -/
theorem EnF.frame (e : EnF K B F ro ka ta sg H) {ro' : List (Option W)} {sg' : L2.St} (hl : sg'.length = ro'.length) (h : ∀ (i : Nat) w, ro'[i]? = some (some w) → ∃ v, sg'[i]? = some (some v) ∧ WOk K B F v w) : EnF K B F ro' ka ta sg' H :=
  ⟨e.nz, e.fz, e.fr, e.nd, e.ce, hl, h, e.tm⟩
/-- cells in another order, some forgotten -/
theorem EnF.cells (e : EnF K B F ro ka ta sg H) {ka' : Cells} (hs : ka'.Sublist ka) : EnF K B F ro ka' ta sg H :=
  ⟨e.nz, e.fz, e.fr, (hs.map _).nodup e.nd, fun p hp => e.ce p (hs.subset hp), e.ln, e.sl, e.tm⟩
theorem EnF.perm (e : EnF K B F ro ka ta sg H) {ka' : Cells} (hs : ka'.Perm ka) : EnF K B F ro ka' ta sg H :=
  ⟨e.nz, e.fz, e.fr, (hs.map _).nodup_iff.mpr e.nd, fun p hp => e.ce p (hs.subset hp), e.ln, e.sl, e.tm⟩
/-- a cell is written -/
theorem EnF.write (e : EnF K B F ro ka ta sg H) {j : Nat} {p : Addr} {n n' : Nd} {o : HO} (hj : ka[j]? = some (p, n)) (hn : NdOk K F (upd H p o) p n') : EnF K B F ro (ka.set j (p, n')) ta sg (upd H p o) := by
  have hjl := (List.getElem?_eq_some_iff.mp hj).1
  have hm : (p, n) ∈ ka := List.mem_of_getElem? hj
  obtain ⟨fp, bp, _⟩ := e.ce _ hm
  have em : (ka.set j (p, n')).map (·.1) = ka.map (·.1) := by
    apply List.ext_getElem?
    intro i
    rw [List.getElem?_map, List.getElem?_map]
    by_cases hij : j = i
    · subst hij
      rw [List.getElem?_set_self hjl, hj]
      rfl
    · rw [List.getElem?_set_ne hij]
  refine ⟨e.nz, fun a u h => ?_, fun a u h => ?_, by rw [em]; exact e.nd, fun q hq => ?_, e.ln, e.sl, e.tm⟩
  · have ha : a ≠ p := ne_of_none h fp
    rcases e.fz a u h with q | ⟨k, ob, q⟩
    · exact .inl (by rw [upd_ne ha]; exact q)
    · exact .inr ⟨k, ob, by rw [upd_ne ha]; exact q⟩
  · have ha : a ≠ p := ne_of_none h bp
    rw [upd_ne ha]
    exact e.fr a u h
  · obtain ⟨i, hi⟩ := List.getElem?_of_mem hq
    by_cases hij : j = i
    · subst hij
      rw [List.getElem?_set_self hjl] at hi
      cases hi
      exact ⟨fp, bp, hn⟩
    · rw [List.getElem?_set_ne hij] at hi
      obtain ⟨h1, h2, h3⟩ := e.ce q (List.mem_of_getElem? hi)
      have nq : q.1 ≠ p := fun z => by
        have h4 : (ka.map (·.1))[i]? = some p := by rw [List.getElem?_map, hi]; simp [z]
        have h5 : (ka.map (·.1))[j]? = some p := by rw [List.getElem?_map, hj]; rfl
        obtain ⟨l1, e1⟩ := List.getElem?_eq_some_iff.mp h4
        obtain ⟨l2, e2⟩ := List.getElem?_eq_some_iff.mp h5
        exact hij ((List.getElem_inj e.nd).mp (e2.trans e1.symm))
      exact ⟨h1, h2, ndok_at (upd_ne nq) h3⟩
end
end DL

/-! DB: what expressions evaluate to, by data (own work). -/
namespace DL
open PySem L2

/-! ### judgements -/
section
variable (K : PySem.W.Frag)
abbrev Ro := List (Option W)
def EvD (te : TE) (ro : Ro) (ka : Cells) (w : W) (ka' : Cells) : Prop := ∀ B F0 ta sg H (Q : VK), En K B F0 ro ka ta sg H → (∀ v H', En K B F0 ro ka' ((v, w) :: ta) sg H' → Q v H') → te sg H Q
/-- a new cell -/
def EvN (te : TE) (ro : Ro) (ka : Cells) (n : Nd) (ka' : Cells) : Prop := ∀ B F0 ta sg H (Q : VK), En K B F0 ro ka ta sg H → (∀ a H', En K B F0 ro (ka' ++ [(a, n)]) ta sg H' → Q (.ref a) H') → te sg H Q
def EvT (tt : TT) (ro : Ro) (ka : Cells) (b : Bool) (ka' : Cells) : Prop := ∀ B F0 ta sg H (Q : Bool → Hp → Prop), En K B F0 ro ka ta sg H → (∀ H', En K B F0 ro ka' ta sg H' → Q b H') → tt sg H Q
def EvA (tr : TA) (ro : Ro) (ka : Cells) (ws : List W) (ka' : Cells) : Prop := ∀ B F0 ta sg H (Q : List V → Hp → Prop), En K B F0 ro ka ta sg H → (∀ vs H', vs.length = ws.length → En K B F0 ro ka' (vs.zip ws ++ ta) sg H' → Q vs H') → tr sg H Q
/-- a two-place operation, a one-place one -/
def RvD (r : R2) (ka : Cells) (x y z : W) : Prop := ∀ B F0 ro ta sg H u v (Q : VK), En K B F0 ro ka ta sg H → (u, x) ∈ ta → (v, y) ∈ ta → (∀ t H', En K B F0 ro ka ((t, z) :: ta) sg H' → Q t H') → r u v H Q
def RvN (r : R2) (ka : Cells) (x y : W) (n : Nd) : Prop := ∀ B F0 ro ta sg H u v (Q : VK), En K B F0 ro ka ta sg H → (u, x) ∈ ta → (v, y) ∈ ta → (∀ a H', En K B F0 ro (ka ++ [(a, n)]) ta sg H' → Q (.ref a) H') → r u v H Q
/-- a call by values -/
def RcD (r : List V → Hp → VK → Prop) (ka : Cells) (xs : List W) (z : W) : Prop := ∀ B F0 ro ta sg H us (Q : VK), En K B F0 ro ka ta sg H → us.length = xs.length → (∀ p ∈ us.zip xs, p ∈ ta) → (∀ t H', En K B F0 ro ka ((t, z) :: ta) sg H' → Q t H') → r us H Q
end

section
variable {K : PySem.W.Frag} {B F0 : Hp} {ro : Ro} {ka k1 k2 k3 : Cells} {ta : List (V × W)} {sg : L2.St} {H : Hp} {te tf tg : TE} {tt tu : TT} {tr : TA} {w x y z : W} {n : Nd} {r : R2}
theorem En.held (e : En K B F0 ro ka ta sg H) {ta' : List (V × W)} (h : ∀ p ∈ ta', p ∈ ta) : En K B F0 ro ka ta' sg H :=
  let ⟨F, g, q⟩ := e
  ⟨F, g, q.held h⟩
theorem En.pop {p : V × W} (e : En K B F0 ro ka (p :: ta) sg H) : En K B F0 ro ka ta sg H := e.held fun _ h => List.mem_cons_of_mem _ h
/-- what data says of its value -/
theorem En.push_imm (e : En K B F0 ro ka ta sg H) {v : V} {w : W} (h : ∀ F, WOk K B F v w) : En K B F0 ro ka ((v, w) :: ta) sg H :=
  let ⟨F, g, q⟩ := e
  ⟨F, g, q.push (h F)⟩
theorem En.tm_int (e : En K B F0 ro ka ta sg H) {v : V} {i : Int} (h : (v, W.val (.int i)) ∈ ta) : v = .int i := let ⟨_, _, q⟩ := e; q.tm _ h
theorem En.tm_str (e : En K B F0 ro ka ta sg H) {v : V} {i : Str} (h : (v, W.val (.str i)) ∈ ta) : v = .str i := let ⟨_, _, q⟩ := e; q.tm _ h
theorem En.tm_bl (e : En K B F0 ro ka ta sg H) {v : V} {i : Bool} (h : (v, W.val (.bl i)) ∈ ta) : v = .bl i := let ⟨_, _, q⟩ := e; q.tm _ h
theorem En.tm_non (e : En K B F0 ro ka ta sg H) {v : V} (h : (v, W.val .non) ∈ ta) : v = .non := let ⟨_, _, q⟩ := e; q.tm _ h
theorem En.tm_adr (e : En K B F0 ro ka ta sg H) {v : V} {a : Addr} (h : (v, W.val (.adr a)) ∈ ta) : v = .ref a := let ⟨_, _, q⟩ := e; q.tm _ h
/-- data that is the value itself -/
def imm : D → Bool
  | .non => true | .bl _ => true | .int _ => true | .str _ => true | .ty _ => true | .adr _ => true
  | _ => false
theorem imm_any {F G : Hp} : ∀ {d : D} {v : V}, imm d = true → Rp K F d v → Rp K G d v
  | .non, _, _, h => h
  | .bl _, _, _, h => h
  | .int _, _, _, h => h
  | .str _, _, _, h => h
  | .ty _, _, _, h => h
  | .adr _, _, _, h => h
/-- a part of something viewed, of something frozen -/
def part (b : Bool) (d : D) : W := if b && !imm d then .vw d else .val d
theorem wok_part {B F : Hp} {v : V} {d : D} (b : Bool) (h : Rp K (if b then uni B F else F) d v) : WOk K B F v (part b d) := by
  unfold part
  cases b with
  | false => exact h
  | true =>
    cases q : imm d with
    | true => exact imm_any q h
    | false => exact h
/-! ### names, constants -/
theorem ev_var {i : Nat} (h : ro[i]? = some (some w)) : EvD K (tVar i) ro ka w ka := fun B F0 ta sg H Q e q => by
  obtain ⟨F, g, e⟩ := e
  obtain ⟨v, h1, h2⟩ := e.sl i w h
  exact ⟨v, h1, q v H ⟨F, g, e.push h2⟩⟩
theorem ev_int {i : Int} : EvD K (tC (.int i)) ro ka (.val (.int i)) ka := fun B F0 ta sg H Q e q => q _ _ (e.push_imm fun _ => rfl)
theorem ev_str {i : Str} : EvD K (tC (.str i)) ro ka (.val (.str i)) ka := fun B F0 ta sg H Q e q => q _ _ (e.push_imm fun _ => rfl)
theorem ev_non : EvD K (tC .non) ro ka (.val .non) ka := fun B F0 ta sg H Q e q => q _ _ (e.push_imm fun _ => rfl)
/-! ### operations -/
theorem ev_op (ha : EvD K te ro ka x k1) (hb : EvD K tf ro k1 y k2) (hr : RvD K r k2 x y z) : EvD K (tOp r te tf) ro ka z k2 := fun B F0 ta sg H Q e q =>
  ha B F0 ta sg H _ e fun u H1 e1 => hb B F0 _ sg H1 _ e1 fun v H2 e2 => hr B F0 ro _ sg H2 u v Q e2 (List.mem_cons_of_mem _ List.mem_cons_self) List.mem_cons_self fun t H3 e3 =>
    q t H3 (e3.held fun p hp => by
      rcases List.mem_cons.mp hp with rfl | hp
      · exact List.mem_cons_self
      · exact List.mem_cons_of_mem _ (List.mem_cons_of_mem _ (List.mem_cons_of_mem _ hp)))
theorem evn_op (ha : EvD K te ro ka x k1) (hb : EvD K tf ro k1 y k2) (hr : RvN K r k2 x y n) : EvN K (tOp r te tf) ro ka n k2 := fun B F0 ta sg H Q e q =>
  ha B F0 ta sg H _ e fun u H1 e1 => hb B F0 _ sg H1 _ e1 fun v H2 e2 => hr B F0 ro _ sg H2 u v Q e2 (List.mem_cons_of_mem _ List.mem_cons_self) List.mem_cons_self fun t H3 e3 =>
    q t H3 (e3.held fun p hp => List.mem_cons_of_mem _ (List.mem_cons_of_mem _ hp))
theorem ea_nil : EvA K tNil ro ka [] ka := fun B F0 ta sg H Q e q => q [] H rfl e
theorem ea_cons (ha : EvD K te ro ka x k1) {ws : List W} (hr : EvA K tr ro k1 ws k2) : EvA K (tCons te tr) ro ka (x :: ws) k2 := fun B F0 ta sg H Q e q =>
  ha B F0 ta sg H _ e fun u H1 e1 => hr B F0 _ sg H1 _ e1 fun vs H2 hl e2 => q (u :: vs) H2 (by rw [List.length_cons, List.length_cons, hl]) (e2.held fun p hp => by
    have hp' : p ∈ (u, x) :: (vs.zip ws ++ ta) := hp
    rcases List.mem_cons.mp hp' with rfl | h
    · exact List.mem_append_right _ List.mem_cons_self
    · rcases List.mem_append.mp h with h | h
      · exact List.mem_append_left _ h
      · exact List.mem_append_right _ (List.mem_cons_of_mem _ h))
theorem ev_cb {r : List V → Hp → VK → Prop} {ws : List W} (ha : EvA K tr ro ka ws k1) (hr : RcD K r k1 ws z) : EvD K (tCB r tr) ro ka z k1 := fun B F0 ta sg H Q e q =>
  ha B F0 ta sg H _ e fun us H1 hl e1 => hr B F0 ro _ sg H1 us Q e1 hl (fun p hp => List.mem_append_left _ hp) fun t H2 e2 => q t H2 (e2.held fun p hp => by
    rcases List.mem_cons.mp hp with rfl | hp
    · exact List.mem_cons_self
    · exact List.mem_cons_of_mem _ (List.mem_append_right _ hp))
/-- another of the ways of an operation -/
theorem rvd_l {r' : R2} (h : RvD K r ka x y z) : RvD K (fun x y H Q => r x y H Q ∨ r' x y H Q) ka x y z := fun B F0 ro ta sg H u v Q e h1 h2 q => .inl (h B F0 ro ta sg H u v Q e h1 h2 q)
theorem rvd_r {r' : R2} (h : RvD K r' ka x y z) : RvD K (fun x y H Q => r x y H Q ∨ r' x y H Q) ka x y z := fun B F0 ro ta sg H u v Q e h1 h2 q => .inr (h B F0 ro ta sg H u v Q e h1 h2 q)
theorem rvn_l {r' : R2} (h : RvN K r ka x y n) : RvN K (fun x y H Q => r x y H Q ∨ r' x y H Q) ka x y n := fun B F0 ro ta sg H u v Q e h1 h2 q => .inl (h B F0 ro ta sg H u v Q e h1 h2 q)
theorem rvn_r {r' : R2} (h : RvN K r' ka x y n) : RvN K (fun x y H Q => r x y H Q ∨ r' x y H Q) ka x y n := fun B F0 ro ta sg H u v Q e h1 h2 q => .inr (h B F0 ro ta sg H u v Q e h1 h2 q)
theorem rcd_l {r r' : List V → Hp → VK → Prop} {xs : List W} (h : RcD K r ka xs z) : RcD K (fun x H Q => r x H Q ∨ r' x H Q) ka xs z := fun B F0 ro ta sg H u Q e h1 h2 q => .inl (h B F0 ro ta sg H u Q e h1 h2 q)
/-! ### a new cell, frozen -/
theorem En.freeze_l (e : En K B F0 ro (ka ++ [(a, .lst ds)]) ta sg H) : En K B F0 ro ka ((.ref a, .val (.lst ds)) :: ta) sg H := by
  obtain ⟨F, g, e⟩ := e
  obtain ⟨fa, ba, xs, ha, rl⟩ := e.ce (a, .lst ds) (by simp)
  have gg : Gr B F (upd F a (.lst xs)) := ⟨Sub.new fa, fun b h1 h2 => by
    have ne : b ≠ a := fun q => h2 (q ▸ ba)
    rw [upd_ne ne]
    exact h1⟩
  have nd2 := e.nd
  rw [List.map_append, List.nodup_append] at nd2
  refine ⟨upd F a (.lst xs), g.trans gg, ⟨fun b u h => ?_, fun b u h => ?_, e.fr, nd2.1, fun q hq => ?_, e.ln, fun i w h => ?_, fun q hq => ?_⟩⟩
  · by_cases hb : b = a
    · subst hb; rw [upd_same] at h; cases h; rfl
    · rw [upd_ne hb] at h; exact e.nz b u h
  · by_cases hb : b = a
    · subst hb; rw [upd_same] at h; cases h; exact .inl ha
    · rw [upd_ne hb] at h; exact e.fz b u h
  · obtain ⟨h1, h2, h3⟩ := e.ce q (List.mem_append_left _ hq)
    have nq : q.1 ≠ a := fun z => nd2.2.2 q.1 (List.mem_map.mpr ⟨q, hq, rfl⟩) a (by simp) z
    exact ⟨by rw [upd_ne nq]; exact h1, h2, ndok_gr e.nz gg h3⟩
  · obtain ⟨v, h1, h2⟩ := e.sl i w h
    exact ⟨v, h1, wok_gr e.nz gg h2⟩
  · rcases List.mem_cons.mp hq with rfl | hq
    · exact ⟨a, xs, rfl, .inl upd_same, RpL.mono gg.sub.exz e.nz _ _ rl⟩
    · exact wok_gr e.nz gg (e.tm q hq)
theorem En.freeze_k (e : En K B F0 ro (ka ++ [(a, .dic ds)]) ta sg H) : En K B F0 ro ka ((.ref a, .val (.dic ds)) :: ta) sg H := by
  obtain ⟨F, g, e⟩ := e
  obtain ⟨fa, ba, xs, ha, rl⟩ := e.ce (a, .dic ds) (by simp)
  have gg : Gr B F (upd F a (.dK xs)) := ⟨Sub.new fa, fun b h1 h2 => by
    have ne : b ≠ a := fun q => h2 (q ▸ ba)
    rw [upd_ne ne]
    exact h1⟩
  have nd2 := e.nd
  rw [List.map_append, List.nodup_append] at nd2
  refine ⟨upd F a (.dK xs), g.trans gg, ⟨fun b u h => ?_, fun b u h => ?_, e.fr, nd2.1, fun q hq => ?_, e.ln, fun i w h => ?_, fun q hq => ?_⟩⟩
  · by_cases hb : b = a
    · subst hb; rw [upd_same] at h; cases h; rfl
    · rw [upd_ne hb] at h; exact e.nz b u h
  · by_cases hb : b = a
    · subst hb; rw [upd_same] at h; cases h; exact .inl ha
    · rw [upd_ne hb] at h; exact e.fz b u h
  · obtain ⟨h1, h2, h3⟩ := e.ce q (List.mem_append_left _ hq)
    have nq : q.1 ≠ a := fun z => nd2.2.2 q.1 (List.mem_map.mpr ⟨q, hq, rfl⟩) a (by simp) z
    exact ⟨by rw [upd_ne nq]; exact h1, h2, ndok_gr e.nz gg h3⟩
  · obtain ⟨v, h1, h2⟩ := e.sl i w h
    exact ⟨v, h1, wok_gr e.nz gg h2⟩
  · rcases List.mem_cons.mp hq with rfl | hq
    · exact ⟨a, xs, rfl, .inl upd_same, RpK.mono gg.sub.exz e.nz _ _ rl⟩
    · exact wok_gr e.nz gg (e.tm q hq)
theorem EvN.lst {ds : List D} (h : EvN K te ro ka (.lst ds) k1) : EvD K te ro ka (.val (.lst ds)) k1 := fun B F0 ta sg H Q e q => h B F0 ta sg H Q e fun a H1 e1 => q _ _ e1.freeze_l
theorem EvN.dic {ds : List (Key × D)} (h : EvN K te ro ka (.dic ds) k1) : EvD K te ro ka (.val (.dic ds)) k1 := fun B F0 ta sg H Q e q => h B F0 ta sg H Q e fun a H1 e1 => q _ _ e1.freeze_k

/-! ### tests -/
theorem et_test {b : Bool} (h : EvD K te ro ka (.val (.bl b)) k1) : EvT K (tTest te) ro ka b k1 := fun B F0 ta sg H Q e q => h B F0 ta sg H _ e fun v H1 e1 => ⟨b, e1.tm_bl List.mem_cons_self, q H1 e1.pop⟩
theorem et_B {b : Bool} (h : EvD K te ro ka (.val (.bl b)) k1) : EvT K (tB te) ro ka b k1 := fun B F0 ta sg H Q e q => h B F0 ta sg H _ e fun v H1 e1 => ⟨b, e1.tm_bl List.mem_cons_self, q H1 e1.pop⟩
theorem et_not {a : Bool} (h : EvT K tt ro ka a k1) : EvT K (tNot tt) ro ka (!a) k1 := fun B F0 ta sg H Q e q => h B F0 ta sg H _ e fun H1 e1 => q H1 e1
theorem et_or0 {b : Bool} (h1 : EvT K tt ro ka false k1) (h2 : EvT K tu ro k1 b k2) : EvT K (tOr tt tu) ro ka b k2 := fun B F0 ta sg H Q e q => h1 B F0 ta sg H _ e fun H1 e1 => h2 B F0 ta sg H1 Q e1 q
theorem EvT.to {a b : Bool} (h : EvT K tt ro ka a k1) (e : a = b) : EvT K tt ro ka b k1 := e ▸ h
theorem EvD.to {w' : W} (h : EvD K te ro ka w k1) (e : w = w') : EvD K te ro ka w' k1 := e ▸ h
theorem EvD.imm {d : D} (h : EvD K te ro ka (.vw d) k1) (i : imm d = true) : EvD K te ro ka (.val d) k1 := fun B F0 ta sg H Q e q => h B F0 ta sg H _ e fun v H1 e1 => q v H1 (by
  obtain ⟨F, g, e1⟩ := e1
  have h1 := e1.tm _ List.mem_cons_self
  exact ⟨F, g, (e1.held (ta' := ta) fun p hp => List.mem_cons_of_mem _ hp).push (imm_any i h1)⟩)
theorem EvD.vw {d : D} (h : EvD K te ro ka (.val d) k1) : EvD K te ro ka (.vw d) k1 := fun B F0 ta sg H Q e q => h B F0 ta sg H _ e fun v H1 e1 => q v H1 (by
  obtain ⟨F, g, e1⟩ := e1
  exact ⟨F, g, (e1.held (ta' := ta) fun p hp => List.mem_cons_of_mem _ hp).push (wok_vw e1.nz (e1.tm _ List.mem_cons_self))⟩)
theorem ev_andV1 (h1 : EvD K te ro ka (.val (.bl true)) k1) (h2 : EvD K tf ro k1 w k2) : EvD K (tAndV te tf) ro ka w k2 := fun B F0 ta sg H Q e q => h1 B F0 ta sg H _ e fun v H1 e1 => ⟨true, e1.tm_bl List.mem_cons_self, h2 B F0 ta sg H1 Q e1.pop q⟩
/-! ### tuples, lists displayed -/
theorem rpl_of {B F : Hp} : ∀ {vs : List V} {ds : List D}, vs.length = ds.length → (∀ p ∈ vs.zip (ds.map W.val), WOk K B F p.1 p.2) → RpL K F ds vs
  | [], [], _, _ => rfl
  | [], _ :: _, h, _ => by cases h
  | _ :: _, [], h, _ => by cases h
  | v :: vs, d :: ds, hl, h => ⟨v, vs, rfl, h (v, .val d) List.mem_cons_self, rpl_of (by simpa using hl) fun p hp => h p (List.mem_cons_of_mem _ hp)⟩
theorem rpl_len {F : Hp} : ∀ {ds : List D} {vs : List V}, RpL K F ds vs → vs.length = ds.length
  | [], vs, h => by rw [show vs = [] from h]; rfl
  | d :: ds, vs, h => by
    obtain ⟨x, ys, rfl, _, h2⟩ := h
    rw [List.length_cons, List.length_cons, rpl_len h2]
theorem rpl_get {F : Hp} : ∀ {ds : List D} {vs : List V} {i : Nat} {d : D}, RpL K F ds vs → ds[i]? = some d → ∃ v, vs[i]? = some v ∧ Rp K F d v
  | [], _, _, _, _, e => by simp at e
  | d0 :: ds, vs, 0, d, h, e => by
    obtain ⟨x, ys, rfl, h1, _⟩ := h
    cases e
    exact ⟨x, rfl, h1⟩
  | d0 :: ds, vs, i + 1, d, h, e => by
    obtain ⟨x, ys, rfl, _, h2⟩ := h
    obtain ⟨v, q1, q2⟩ := rpl_get (i := i) (d := d) h2 (by simpa using e)
    exact ⟨v, by simpa using q1, q2⟩
theorem rpl_app {F : Hp} : ∀ {ds es : List D} {xs ys : List V}, RpL K F ds xs → RpL K F es ys → RpL K F (ds ++ es) (xs ++ ys)
  | [], es, xs, ys, h, h2 => by rw [show xs = [] from h]; exact h2
  | d :: ds, es, xs, ys, h, h2 => by
    obtain ⟨x, zs, rfl, h1, h3⟩ := h
    exact ⟨x, zs ++ ys, rfl, h1, rpl_app h3 h2⟩
theorem ev_tup {ds : List D} (h : EvA K tr ro ka (ds.map W.val) k1) (hl : ds.length ≤ 100000 := by decide) : EvD K (tTup tr) ro ka (.val (.tup ds)) k1 := fun B F0 ta sg H Q e q => h B F0 ta sg H _ e fun vs H1 hvl e1 => by
  rw [List.length_map] at hvl
  refine ⟨Nat.le_trans (by rw [hvl]; exact hl) (by decide : 100000 ≤ sizeLine), fun p hp => q _ _ ?_⟩
  obtain ⟨F, g, e1⟩ := e1
  obtain ⟨e2, g2⟩ := e1.lay (o := .tup vs) hp rfl
  refine ⟨_, g.trans g2, (e2.held (ta' := ta) fun p hp => List.mem_append_right _ hp).push ⟨p, vs, rfl, .inl (.inl upd_same), ?_⟩⟩
  exact RpL.mono g2.sub.exz e1.nz _ _ (rpl_of hvl fun z hz => e1.tm z (List.mem_append_left _ hz))
theorem evn_lst {ds : List D} (h : EvA K tr ro ka (ds.map W.val) k1) (hl : ds.length ≤ 100000 := by decide) : EvN K (tLst tr) ro ka (.lst ds) k1 := fun B F0 ta sg H Q e q => h B F0 ta sg H _ e fun vs H1 hvl e1 => by
  rw [List.length_map] at hvl
  refine ⟨Nat.le_trans (by rw [hvl]; exact hl) (by decide : 100000 ≤ sizeLine), fun p hp => q _ _ ?_⟩
  obtain ⟨F, g, e1⟩ := e1
  refine ⟨F, g, (e1.cell (o := .lst vs) hp (n := .lst ds) ⟨vs, upd_same, rpl_of hvl fun z hz => e1.tm z (List.mem_append_left _ hz)⟩).held fun p hp => List.mem_append_right _ hp⟩
end
end DL

/-! DC: operations by data (own work). -/
namespace DL
open PySem L2

/-! ### universal operators: each of the ways that this text takes -/
abbrev rAddI : R2 := rI0 fun i j => .int (i + j)
abbrev rAddS : R2 := fun x y H Q => ∃ i j, x = .str i ∧ y = .str j ∧ i.length + j.length ≤ sizeLine ∧ Q (.str (i ++ j)) H
/-- list + list, locked or not -/
def rCatR : R2 := fun x y H Q => ∃ l b xs zs, x = .ref l ∧ y = .ref b ∧ Rd H l (.lst xs) ∧ Rd H b (.lst zs) ∧ xs.length + zs.length ≤ sizeLine ∧ ∀ p, H p = none → Q (.ref p) (upd H p (.lst (xs ++ zs)))
section
variable {X : Cx}
theorem op_catR : OpR X (binaryOp .Add) rCatR := fun pins s sg H x y v u Q I rx ry h => by
  obtain ⟨l, b, xs, zs, ex, ey, h1, h2, hz, q⟩ := h
  subst ex ey
  cases rx
  cases ry
  have ⟨_, us, _, r, e⟩ := h1.ok I.hok
  have ⟨_, ws, _, r2, e2⟩ := h2.ok I.hok
  have lens : us.length + ws.length ≤ sizeLine := by rw [← r.length, ← r2.length]; exact hz
  refine PySem.P.add_list e e2 ?_ (show us.toArray.size + ws.toArray.size ≤ _ by rw [us.size_toArray, ws.size_toArray]; exact lens)
  rw [List.append_toArray]
  exact ⟨.ref _, _, I.lnew (t' := s.toks) (r.append r2) (xs.length_append ▸ hz), rfl, q _ I.fresh⟩
def rAddU (K : PySem.W.Frag) : R2 := fun x y H Q => rAddI x y H Q ∨ (fun x y H Q => rAddS x y H Q ∨ (fun x y H Q => rCatR x y H Q ∨ rCatA K x y H Q) x y H Q) x y H Q
theorem op_addU : OpR X (binaryOp .Add) (rAddU X.K) := op_add.or (op_add_str.or (op_catR.or op_catA))
/-- s * n for texts -/
abbrev rSubI : R2 := rI0 fun i j => .int (i - j)
abbrev rPowI : R2 := rI CPow fun i j => .int (i ^ j.toNat)
abbrev rModI : R2 := rI (fun _ j => 0 < j) fun i j => .int (i % j)
abbrev rDivI : R2 := rI CDiv fun i j => .int (i / j)
abbrev rLtI : R2 := rI0 fun i j => .bl (decide (i < j))
end

section
variable {K : PySem.W.Frag} {B F0 : Hp} {ro : Ro} {ka k1 k2 k3 : Cells} {ta : List (V × W)} {sg : L2.St} {H : Hp} {te tf tg : TE} {tl th : TO} {tr : TA} {w x y z : W} {n : Nd} {r : R2}

/-! ### numbers -/
theorem rv_I0 {g : Int → Int → V} {i j : Int} {d : D} (h : ∀ F, Rp K F d (g i j)) : RvD K (rI0 g) ka (.val (.int i)) (.val (.int j)) (.val d) := fun B F0 ro ta sg H u v Q e h1 h2 q =>
  ⟨i, j, e.tm_int h1, e.tm_int h2, q _ _ (e.push_imm fun F => h F)⟩
theorem rv_I {C : Int → Int → Prop} {g : Int → Int → V} {i j : Int} {d : D} (c : C i j) (h : ∀ F, Rp K F d (g i j)) : RvD K (rI C g) ka (.val (.int i)) (.val (.int j)) (.val d) := fun B F0 ro ta sg H u v Q e h1 h2 q =>
  ⟨i, j, e.tm_int h1, e.tm_int h2, c, q _ _ (e.push_imm fun F => h F)⟩
theorem rv_addI {i j : Int} : RvD K (rAddU K) ka (.val (.int i)) (.val (.int j)) (.val (.int (i + j))) := rvd_l (rv_I0 fun _ => rfl)
theorem rv_addS {i j : Str} (h : i.length + j.length ≤ 100000) : RvD K (rAddU K) ka (.val (.str i)) (.val (.str j)) (.val (.str (i ++ j))) := rvd_r (rvd_l fun B F0 ro ta sg H u v Q e h1 h2 q =>
  ⟨i, j, e.tm_str h1, e.tm_str h2, Nat.le_trans h (by decide), q _ _ (e.push_imm fun F => rfl)⟩)
theorem rv_sub {i j : Int} : RvD K rSubI ka (.val (.int i)) (.val (.int j)) (.val (.int (i - j))) := rv_I0 fun _ => rfl
theorem rv_pow {i j : Int} (c : CPow i j) : RvD K rPowI ka (.val (.int i)) (.val (.int j)) (.val (.int (i ^ j.toNat))) := rv_I c fun _ => rfl
theorem rv_mod {i j : Int} (c : 0 < j) : RvD K rModI ka (.val (.int i)) (.val (.int j)) (.val (.int (i % j))) := rv_I c fun _ => rfl
theorem rv_div {i j : Int} (c : CDiv i j) : RvD K rDivI ka (.val (.int i)) (.val (.int j)) (.val (.int (i / j))) := rv_I c fun _ => rfl
theorem rv_lt {i j : Int} : RvD K rLtI ka (.val (.int i)) (.val (.int j)) (.val (.bl (decide (i < j)))) := rv_I0 fun _ => rfl
/-! ### sequences: what stands behind a value -/
/-- w is a sequence of ds: t: a tuple; b: viewed -/
inductive Lk (ka : Cells) : W → Bool → List D → Bool → Prop where
  | vl {ds} : Lk ka (.val (.lst ds)) false ds false
  | vt {ds} : Lk ka (.val (.tup ds)) true ds false
  | wl {ds} : Lk ka (.vw (.lst ds)) false ds true
  | wt {ds} : Lk ka (.vw (.tup ds)) true ds true
  | ce {a ds} (j : Nat) (h : ka[j]? = some (a, .lst ds)) : Lk ka (.val (.adr a)) false ds false
def SqB (K : PySem.W.Frag) (t : Bool) (H : Hp) (a : Addr) (xs : List V) : Prop := if t then SqT K H a xs else Rd H a (.lst xs)
theorem SqB.sq {t : Bool} {a : Addr} {xs : List V} (h : SqB K t H a xs) : SqL K H a xs ∨ SqT K H a xs := by
  cases t with
  | true => exact .inr h
  | false => exact .inl (.inl h)
/-- what a sequence's value is, its items over a heap G that H holds -/
theorem Lk.get {F : Hp} {t b : Bool} {ds : List D} {v : V} (l : Lk ka w t ds b) (e : EnF K B F ro ka ta sg H) (h : WOk K B F v w) :
    ∃ a xs, v = .ref a ∧ SqB K t H a xs ∧ RpL K (if b then uni B F else F) ds xs := by
  cases l with
  | vl =>
    obtain ⟨a, xs, rfl, h1, h2⟩ := h
    exact ⟨a, xs, rfl, e.fz.rd e.nz h1, h2⟩
  | vt =>
    obtain ⟨a, xs, rfl, h1, h2⟩ := h
    exact ⟨a, xs, rfl, sqT_mono e.fz e.nz h1, h2⟩
  | wl =>
    obtain ⟨a, xs, rfl, h1, h2⟩ := h
    exact ⟨a, xs, rfl, (uni_exz e.fz e.fr).rd (uni_nz e.nz) h1, h2⟩
  | wt =>
    obtain ⟨a, xs, rfl, h1, h2⟩ := h
    exact ⟨a, xs, rfl, sqT_mono (uni_exz e.fz e.fr) (uni_nz e.nz) h1, h2⟩
  | @ce a ds j hj =>
    obtain ⟨_, _, xs, h1, h2⟩ := e.ce _ (List.mem_of_getElem? hj)
    have hv : v = .ref a := h
    exact ⟨a, xs, hv, .inl h1, h2⟩
theorem Lk.at {F : Hp} {t b : Bool} {ds : List D} {v : V} (l : Lk ka w t ds b) (e : EnF K B F ro ka ta sg H) (h : WOk K B F v w) :
    ∃ a xs, v = .ref a ∧ (SqL K H a xs ∨ SqT K H a xs) ∧ RpL K (if b then uni B F else F) ds xs :=
  let ⟨a, xs, h1, h2, h3⟩ := l.get e h
  ⟨a, xs, h1, h2.sq, h3⟩

/-! ### len -/
/-- len: sequences, texts, dicts -/
def rLenU (K : PySem.W.Frag) : List V → Hp → VK → Prop := fun xs H Q => (fun xs H Q => ∃ p ys, xs = [.ref p] ∧ (SqL K H p ys ∨ SqT K H p ys) ∧ Q (.int ys.length) H) xs H Q ∨ (fun xs H Q => ∃ z, xs = [.str z] ∧ z.length ≤ sizeLine ∧ Q (.int z.length) H) xs H Q
theorem call_lenU {X : Cx} : CallR X (.builtin "len") (rLenU X.K) := call_len_seq.or call_len_str
theorem zip_one {us : List V} {x : W} (h : us.length = [x].length) (hm : ∀ p ∈ us.zip [x], p ∈ ta) : ∃ u, us = [u] ∧ (u, x) ∈ ta := by
  match us, h with
  | [u], _ => exact ⟨u, rfl, hm _ List.mem_cons_self⟩
theorem rc_len {t b : Bool} {ds : List D} (l : Lk ka w t ds b) : RcD K (rLenU K) ka [w] (.val (.int ds.length)) := rcd_l fun B F0 ro ta sg H us Q e hl hm q => by
  obtain ⟨u, rfl, hu⟩ := zip_one hl hm
  obtain ⟨F, g, e⟩ := e
  obtain ⟨a, xs, rfl, h1, h2⟩ := l.at e (e.tm _ hu)
  refine ⟨a, xs, rfl, h1, ?_⟩
  rw [rpl_len h2]
  exact q _ _ ⟨F, g, e.push rfl⟩
/-! ### items -/
theorem atI_map {α β : Type} {f : α → β → Prop} {xs : List α} {ys : List β} (hl : xs.length = ys.length) {i : Int} {y : β} (h : atI ys i = some y) (hf : ∀ (j : Nat) y, ys[j]? = some y → ∃ x, xs[j]? = some x ∧ f x y) : ∃ x, atI xs i = some x ∧ f x y := by
  unfold atI at h ⊢
  rw [hl]
  cases q : ixN ys.length i with
  | none => rw [q] at h; cases h
  | some j =>
    rw [q] at h
    exact hf j y h
theorem rv_ix {t b : Bool} {ds : List D} {i : Int} {d : D} (l : Lk ka w t ds b) (hd : atI ds i = some d) : RvD K (rIx K) ka w (.val (.int i)) (part b d) := fun B F0 ro ta sg H u v Q e h1 h2 q => by
  have hv := e.tm_int h2
  subst hv
  obtain ⟨F, g, e⟩ := e
  obtain ⟨a, xs, rfl, s1, s2⟩ := l.at e (e.tm _ h1)
  obtain ⟨z, hz, rz⟩ := atI_map (f := fun x d => Rp K (if b then uni B F else F) d x) (rpl_len s2) hd fun j y hy => rpl_get s2 hy
  have fin := q z H ⟨F, g, e.push (wok_part b rz)⟩
  rcases s1 with s1 | s1
  · exact .inl ⟨a, xs, i, z, rfl, rfl, s1, hz, fin⟩
  · exact .inr (.inl ⟨a, xs, i, z, rfl, rfl, s1, hz, fin⟩)
/-! ### list + list, tuple + tuple -/
theorem rvn_cat {b1 b2 : Bool} {ds es : List D} (l1 : Lk ka x false ds false) (l2 : Lk ka y false es false) (hz : ds.length + es.length ≤ 100000) : RvN K (rAddU K) ka x y (.lst (ds ++ es)) :=
  rvn_r (rvn_r (rvn_l fun B F0 ro ta sg H u v Q e h1 h2 q => by
    obtain ⟨F, g, e⟩ := e
    obtain ⟨a, xs, rfl, s1, r1⟩ := l1.get e (e.tm _ h1)
    obtain ⟨b, ys, rfl, s2, r2⟩ := l2.get e (e.tm _ h2)
    refine ⟨a, b, xs, ys, rfl, rfl, s1, s2, by rw [rpl_len r1, rpl_len r2]; exact Nat.le_trans hz (by decide), fun p hp => q p _ ?_⟩
    exact ⟨F, g, e.cell (o := .lst (xs ++ ys)) hp (n := .lst (ds ++ es)) ⟨_, upd_same, rpl_app r1 r2⟩⟩))
end
end DL

/-! DS: statements, loops, contracts by data (own work). -/
namespace DL
open PySem L2

section
variable (K : PySem.W.Frag)
/-- from such a state P holds -/
def Gp (B F0 : Hp) (ta : List (V × W)) (P : L2.St → Hp → Prop) (ro : Ro) (ka : Cells) : Prop := ∀ sg H, En K B F0 ro ka ta sg H → P sg H
/-- how a call ends: with data, or an exception of a class, its own fields -/
inductive Out where
  | ret (d : D) | exc (C : Addr) (fs : List (Str × D)) | exc0 (C : Addr)
abbrev Ct := List W → Cells → (Out → Cells → Prop) → Prop
/-- what is wanted at a return -/
def RtOk (B F0 : Hp) (out : Out → Cells → Prop) (rt : VK) : Prop := ∀ d ka v H, out (.ret d) ka → En K B F0 [] ka [(v, .val d)] [] H → rt v H
def RxOk (B F0 : Hp) (out : Out → Cells → Prop) (E : XK) : Prop :=
  (∀ C fs ka dx H, out (.exc C fs) ka → En K B F0 [] (ka ++ [(dx, .xd fs)]) [] [] H → E (.ref C) (some dx) H) ∧
  ∀ C ka H, out (.exc0 C) ka → En K B F0 [] ka [] [] H → E (.ref C) none H
/-- the promise of a contract -/
def spC (C : Ct) : Sp := fun vs H Q E => ∃ B F args ka out, C args ka out ∧ vs.length = args.length ∧ En K B F [] ka (vs.zip args) [] H ∧ RtOk K B F out Q ∧ RxOk K B F out E
end

section
variable {K : PySem.W.Frag} {B F0 : Hp} {ro : Ro} {ka k1 k2 k3 : Cells} {ta : List (V × W)} {sg : L2.St} {H : Hp} {te tf tg : TE} {tl th : TO} {tr : TA} {tt : TT} {w x y z : W} {n : Nd} {r : R2} {De : Ends} {t u : TS} {P : L2.St → Hp → Prop}
theorem En.gp (e : En K B F0 ro ka ta sg H) (h : Gp K B F0 ta P ro ka) : P sg H := h sg H e
theorem En.set (e : En K B F0 ro ka ((v, w) :: ta) sg H) (i : Nat) : En K B F0 (ro.set i (some w)) ka ta (sg.set i (some v)) H :=
  let ⟨F, g, q⟩ := e
  ⟨F, g, (q.set (q.tm _ List.mem_cons_self) i).held fun _ h => List.mem_cons_of_mem _ h⟩
theorem En.setA (e : En K B F0 ro ka ta sg H) (i : Nat) (a : Addr) : En K B F0 (ro.set i (some (.val (.adr a)))) ka ta (sg.set i (some (.ref a))) H :=
  let ⟨F, g, q⟩ := e
  ⟨F, g, q.set (w := .val (.adr a)) rfl i⟩
theorem g_next (h : Gp K B F0 ta De.nx ro ka) : Gp K B F0 ta (tNext De) ro ka := h
theorem g_asg {i : Nat} (h : EvD K te ro ka w k1) (k : Gp K B F0 ta De.nx (ro.set i (some w)) k1) : Gp K B F0 ta (tAsg te (gName i) De) ro ka := fun sg H e => h B F0 ta sg H _ e fun v H1 e1 => k _ _ (e1.set i)
theorem g_asgN {i : Nat} (h : EvN K te ro ka n k1) (k : ∀ a, Gp K B F0 ta De.nx (ro.set i (some (.val (.adr a)))) (k1 ++ [(a, n)])) : Gp K B F0 ta (tAsg te (gName i) De) ro ka := fun sg H e => h B F0 ta sg H _ e fun a H1 e1 => k a _ _ (e1.setA i a)
theorem q_asg {i : Nat} (h : EvD K te ro ka w k1) (k : Gp K B F0 ta (u De) (ro.set i (some w)) k1) : Gp K B F0 ta (tSeq (tAsg te (gName i)) u De) ro ka := g_asg (De := { De with nx := u De }) h k
theorem q_asgN {i : Nat} (h : EvN K te ro ka n k1) (k : ∀ a, Gp K B F0 ta (u De) (ro.set i (some (.val (.adr a)))) (k1 ++ [(a, n)])) : Gp K B F0 ta (tSeq (tAsg te (gName i)) u De) ro ka := g_asgN (De := { De with nx := u De }) h k
theorem g_if {b : Bool} {u : TS} (h : EvT K tt ro ka b k1) (h1 : b = true → Gp K B F0 ta (t De) ro k1) (h2 : b = false → Gp K B F0 ta (u De) ro k1) : Gp K B F0 ta (tIfS tt t u De) ro ka := fun sg H e => h B F0 ta sg H _ e fun H1 e1 => by
  cases b with
  | true => exact h1 rfl _ _ e1
  | false => exact h2 rfl _ _ e1
/-- an if without else -/
theorem q_when {b : Bool} (h : EvT K tt ro ka b k1) (h1 : b = true → Gp K B F0 ta (t { De with nx := u De }) ro k1) (h2 : b = false → Gp K B F0 ta (u De) ro k1) : Gp K B F0 ta (tSeq (tIfS tt t tNext) u De) ro ka := g_if (De := { De with nx := u De }) h h1 h2
theorem En.leave (e : En K B F0 ro ka ((v, w) :: ta) sg H) : En K B F0 [] ka [(v, w)] [] H :=
  let ⟨F, g, q⟩ := e
  ⟨F, g, (q.frame (ro' := []) (sg' := []) rfl fun i w h => by simp at h).held fun p hp => by
    have : p = (v, w) := by simpa using hp
    rw [this]
    exact List.mem_cons_self⟩
theorem g_ret {out : Out → Cells → Prop} {d : D} {De : Ends} (hr : RtOk K B F0 out De.rt) (h : EvD K te ro ka (.val d) k1) (o : out (.ret d) k1) : Gp K B F0 ta (tRet te De) ro ka := fun sg H e => h B F0 ta sg H _ e fun v H1 e1 => hr d k1 v H1 o e1.leave
/-! ### cells changed -/
theorem EnF.rd_lst {F : Hp} (e : EnF K B F ro ka ta sg H) {j : Nat} {a : Addr} {ds : List D} (hj : ka[j]? = some (a, .lst ds)) : ∃ xs, H a = some (.lst xs) ∧ RpL K F ds xs := (e.ce _ (List.mem_of_getElem? hj)).2.2
theorem g_app {j0 j : Nat} {a : Addr} {ds0 ds : List D} {d : D} {De : Ends} (ho : EvD K te ro ka (.val (.adr a)) k1) (h0 : k1[j0]? = some (a, .lst ds0)) (he : EvD K tf ro k1 (.val d) k2) (hj : k2[j]? = some (a, .lst ds)) (hz : ds.length < 100000)
    (k : Gp K B F0 ta De.nx ro (k2.set j (a, .lst (ds ++ [d])))) : Gp K B F0 ta (tDrop (tBM K "list" rAppend te (tCons tf tNil)) De) ro ka := fun sg H e => ho B F0 ta sg H _ e fun u H1 e1 => by
  have hu := e1.tm_adr List.mem_cons_self
  subst hu
  refine ⟨?_, he B F0 _ sg H1 _ e1 fun v H2 e2 => ?_⟩
  · obtain ⟨F, g, e1⟩ := e1
    obtain ⟨xs, hx, _⟩ := e1.rd_lst h0
    exact .inl ⟨rfl, xs, .inl (.inl hx)⟩
  · obtain ⟨F, g, e2⟩ := e2
    obtain ⟨xs, hx, rx⟩ := e2.rd_lst hj
    have hv := e2.tm _ List.mem_cons_self
    refine ⟨a, xs, v, rfl, rfl, hx, by rw [rpl_len rx]; exact Nat.lt_of_lt_of_le hz (by decide), k _ _ ⟨F, g, ?_⟩⟩
    exact (e2.write (o := .lst (xs ++ [v])) (n' := .lst (ds ++ [d])) hj ⟨_, upd_same, rpl_app rx ⟨v, [], rfl, hv, rfl⟩⟩).held fun p hp => List.mem_cons_of_mem _ (List.mem_cons_of_mem _ hp)
theorem q_app {j0 j : Nat} {a : Addr} {ds0 ds : List D} {d : D} {De : Ends} (ho : EvD K te ro ka (.val (.adr a)) k1) (h0 : k1[j0]? = some (a, .lst ds0)) (he : EvD K tf ro k1 (.val d) k2) (hj : k2[j]? = some (a, .lst ds)) (hz : ds.length < 100000)
    (k : Gp K B F0 ta (u De) ro (k2.set j (a, .lst (ds ++ [d])))) : Gp K B F0 ta (tSeq (tDrop (tBM K "list" rAppend te (tCons tf tNil))) u De) ro ka := g_app (De := { De with nx := u De }) ho h0 he hj hz k
/-! ### what is walked -/
/-- wi walks through the items ws, while C holds of the cells -/
def EvI (K : PySem.W.Frag) (wi : TI) (ro : Ro) (ka : Cells) (ws : List W) (C : Cells → Prop) (ka' : Cells) : Prop := ∀ B F0 ta sg H (R : It → Hp → Prop), En K B F0 ro ka ta sg H →
  (∀ J ta' H', (∀ p ∈ ta, p ∈ ta') → En K B F0 ro ka' ta' sg H' →
    (∀ i w ro2 ka2 ta2 sg2 H2, ws[i]? = some w → C ka2 → (∀ p ∈ ta', p ∈ ta2) → En K B F0 ro2 ka2 ta2 sg2 H2 → J.go i H2 ∧ ∀ x H3, J.yld i H2 x H3 → En K B F0 ro2 ka2 ((x, w) :: ta2) sg2 H3) →
    (∀ i ro2 ka2 ta2 sg2 H2, ws.length ≤ i → C ka2 → (∀ p ∈ ta', p ∈ ta2) → En K B F0 ro2 ka2 ta2 sg2 H2 → J.stop i H2) → R J H') → wi sg H R
/-- the word between two turns -/
def Jp (K : PySem.W.Frag) (B F0 : Hp) (ta : List (V × W)) (Inv : Ro → Cells → Prop) : L2.St → Hp → Prop := fun sg H => ∃ ro ka, Inv ro ka ∧ En K B F0 ro ka ta sg H
theorem g_jp {Inv : Ro → Cells → Prop} (h : Inv ro ka) : Gp K B F0 ta (Jp K B F0 ta Inv) ro ka := fun sg H e => ⟨ro, ka, h, e⟩
theorem g_for {wi : TI} {ws : List W} {C : Cells → Prop} {g : TG} {tb : TS} {De : Ends} (h : EvI K wi ro ka ws C k1) (Inv : Nat → Ro → Cells → Prop) (h0 : Inv 0 ro k1) (hC : ∀ i ro2 ka2, Inv i ro2 ka2 → C ka2)
    (hs : ∀ i w ro2 ka2, ws[i]? = some w → Inv i ro2 ka2 → ∀ ta', Gp K B F0 ta' (fun sg H => ∀ x, En K B F0 ro2 ka2 ((x, w) :: ta') sg H → g x sg H fun sg2 H2 => tb { De with nx := Jp K B F0 ta' (Inv (i + 1)), ct := Jp K B F0 ta' (Inv (i + 1)), bk := De.nx } sg2 H2) ro2 ka2)
    (hd : ∀ ro2 ka2 ta', Inv ws.length ro2 ka2 → (∀ p ∈ ta, p ∈ ta') → Gp K B F0 ta' De.nx ro2 ka2) : Gp K B F0 ta (tFor wi g tb De) ro ka := fun sg H e =>
  h B F0 ta sg H _ e fun J ta' H1 hta e1 hgo hst => by
    refine ⟨fun i m sg H => m = ws.length - i ∧ i ≤ ws.length ∧ Jp K B F0 ta' (Inv i) sg H, ⟨ws.length, by simp, Nat.zero_le _, ro, k1, h0, e1⟩, ?_⟩
    rintro i m sg2 H2 ⟨rfl, hi, ro2, ka2, inv, e2⟩
    by_cases hlt : i < ws.length
    · obtain ⟨g1, g2⟩ := hgo i ws[i] ro2 ka2 ta' sg2 H2 (List.getElem?_eq_getElem hlt) (hC i ro2 ka2 inv) (fun p hp => hp) e2
      refine .inr ⟨g1, Jp K B F0 ta' (Inv (i + 1)), fun sg' H' q => ⟨ws.length - (i + 1), by omega, rfl, hlt, q⟩, fun x H3 y => ?_⟩
      have e3 := g2 x H3 y
      exact hs i ws[i] ro2 ka2 (List.getElem?_eq_getElem hlt) inv ta' sg2 H3 e3.pop x e3
    · have ei : i = ws.length := by omega
      subst ei
      exact .inl ⟨hst _ ro2 ka2 ta' sg2 H2 (Nat.le_refl _) (hC _ ro2 ka2 inv) (fun p hp => hp) e2, hd ro2 ka2 ta' inv hta sg2 H2 e2⟩
theorem ei_range1 {tr : TA} {m : Int} (h : EvA K tr ro ka [.val (.int m)] k1) (hm : m ≤ 1000000) (hm0 : -1000000 ≤ m) : EvI K (iRng1 tr) ro ka ((List.range m.toNat).map fun i : Nat => W.val (.int (i : Int))) (fun _ => True) k1 := fun B F0 ta sg H R e q =>
  h B F0 ta sg H _ e fun vs H1 hl e1 => by
    match vs, hl with
    | [v], _ =>
      have hv := e1.tm_int (v := v) (i := m) List.mem_cons_self
      subst hv
      refine ⟨m, rfl, by omega, by omega, q _ ta H1 (fun p hp => hp) (e1.held fun p hp => List.mem_append_right _ hp) (fun i w ro2 ka2 ta2 sg2 H2 hw _ _ e2 => ?_) fun i ro2 ka2 ta2 sg2 H2 hi _ _ _ => ?_⟩
      · rw [List.getElem?_map] at hw
        cases hi : (List.range m.toNat)[i]? with
        | none => rw [hi] at hw; cases hw
        | some j =>
          rw [hi] at hw
          obtain ⟨hlt, hj⟩ := List.getElem?_eq_some_iff.mp hi
          rw [List.getElem_range] at hj
          subst hj
          cases hw
          refine ⟨by show i < _; simpa using hlt, fun x H3 ⟨e3, ex⟩ => ?_⟩
          subst e3 ex
          exact e2.push_imm fun _ => by
            show V.int (0 + (i : Int)) = V.int (i : Int)
            rw [Int.zero_add]
      · rw [List.length_map, List.length_range] at hi
        exact hi
end

/-! ### any sequence walked -/
/-- lists, tuples, texts -/
def iSeq (K : PySem.W.Frag) (tl : TE) : TI := fun sg H R => iList K tl sg H R ∨ iTup K tl sg H R ∨ iStr tl sg H R
theorem pi_seq {X : Cx} {tg : Expr} {l : Expr} {tl : TE} (hl : PE X l tl) : PI X tg l (iSeq X.K tl) :=
  ⟨fun pins s sg H R I h => h.elim ((pi_list hl).run pins s sg H R I) fun h => h.elim ((pi_tup hl).run pins s sg H R I) ((pi_str hl).run pins s sg H R I)⟩
section
variable {K : PySem.W.Frag} {ro : Ro} {ka k1 : Cells} {te : TE} {w : W}
/-- the cell that is walked stays -/
def Stay (w : W) (ds : List D) (ka : Cells) : Prop := match w with
  | .val (.adr a) => (a, Nd.lst ds) ∈ ka
  | _ => True
theorem Lk.mono {ka : Cells} {t b : Bool} {ds : List D} (l : Lk ka w t ds b) (ka2 : Cells) (h : Stay w ds ka2) : Lk ka2 w t ds b := by
  cases l with
  | vl => exact .vl
  | vt => exact .vt
  | wl => exact .wl
  | wt => exact .wt
  | ce j hj =>
    obtain ⟨j2, h2⟩ := List.getElem?_of_mem h
    exact .ce j2 h2
theorem ei_seq {t b : Bool} {ds : List D} (h : EvD K te ro ka w k1) (l : Lk k1 w t ds b) : EvI K (iSeq K te) ro ka (ds.map (part b)) (Stay w ds) k1 := fun B F0 ta sg H R e q => by
  have again : ∀ (a : Addr) ro2 ka2 ta2 sg2 H2, Stay w ds ka2 → (V.ref a, w) ∈ ta2 → En K B F0 ro2 ka2 ta2 sg2 H2 → ∃ F ys, EnF K B F ro2 ka2 ta2 sg2 H2 ∧ Gr B F0 F ∧ SqB K t H2 a ys ∧ RpL K (if b then uni B F else F) ds ys := fun a ro2 ka2 ta2 sg2 H2 hs hm e2 => by
    obtain ⟨F, g, e2⟩ := e2
    obtain ⟨a', ys, e', s2, r2⟩ := (l.mono ka2 hs).get e2 (e2.tm _ hm)
    cases e'
    exact ⟨F, ys, e2, g, s2, r2⟩
  have item : ∀ {i : Nat} {w2 : W} {F : Hp} {ys : List V}, (ds.map (part b))[i]? = some w2 → RpL K (if b then uni B F else F) ds ys → ∃ y, ys[i]? = some y ∧ WOk K B F y w2 := fun {i w2 F ys} hw r2 => by
    rw [List.getElem?_map] at hw
    cases hd : ds[i]? with
    | none => rw [hd] at hw; cases hw
    | some d =>
      rw [hd] at hw
      cases hw
      obtain ⟨y, hy, ry⟩ := rpl_get r2 hd
      exact ⟨y, hy, wok_part b ry⟩
  cases t with
  | true =>
    refine .inr (.inl (h B F0 ta sg H _ e fun v H1 e1 => ?_))
    obtain ⟨F, g, ef⟩ := id e1
    obtain ⟨a, xs, rfl, s1, r1⟩ := l.get ef (ef.tm _ List.mem_cons_self)
    refine ⟨a, rfl, ⟨xs, s1⟩, q _ ((.ref a, w) :: ta) H1 (fun p hp => List.mem_cons_of_mem _ hp) e1 (fun i w2 ro2 ka2 ta2 sg2 H2 hw hs hm e2 => ?_) fun i ro2 ka2 ta2 sg2 H2 hi hs hm e2 => ?_⟩
    · obtain ⟨F2, ys, ef2, g2, s2, r2⟩ := again a ro2 ka2 ta2 sg2 H2 hs (hm _ List.mem_cons_self) e2
      obtain ⟨y, hy, wy⟩ := item hw r2
      refine ⟨⟨ys, y, s2, hy⟩, fun x H3 ⟨e3, ex⟩ => ?_⟩
      subst e3
      have h5 := ex ys s2
      rw [hy] at h5
      cases h5
      exact ⟨F2, g2, ef2.push wy⟩
    · obtain ⟨F2, ys, ef2, g2, s2, r2⟩ := again a ro2 ka2 ta2 sg2 H2 hs (hm _ List.mem_cons_self) e2
      refine ⟨ys, s2, ?_⟩
      rw [rpl_len r2]
      rwa [List.length_map] at hi
  | false =>
    refine .inl (h B F0 ta sg H _ e fun v H1 e1 => ?_)
    obtain ⟨F, g, ef⟩ := id e1
    obtain ⟨a, xs, rfl, s1, r1⟩ := l.get ef (ef.tm _ List.mem_cons_self)
    refine ⟨a, rfl, ⟨xs, .inl s1⟩, q _ ((.ref a, w) :: ta) H1 (fun p hp => List.mem_cons_of_mem _ hp) e1 (fun i w2 ro2 ka2 ta2 sg2 H2 hw hs hm e2 => ?_) fun i ro2 ka2 ta2 sg2 H2 hi hs hm e2 => ?_⟩
    · obtain ⟨F2, ys, ef2, g2, s2, r2⟩ := again a ro2 ka2 ta2 sg2 H2 hs (hm _ List.mem_cons_self) e2
      obtain ⟨y, hy, wy⟩ := item hw r2
      refine ⟨⟨ys, y, .inl s2, hy⟩, fun x H3 ⟨e3, ex⟩ => ?_⟩
      subst e3
      have h5 := ex ys (.inl s2)
      rw [hy] at h5
      cases h5
      exact ⟨F2, g2, ef2.push wy⟩
    · obtain ⟨F2, ys, ef2, g2, s2, r2⟩ := again a ro2 ka2 ta2 sg2 H2 hs (hm _ List.mem_cons_self) e2
      refine ⟨ys, .inl s2, ?_⟩
      rw [rpl_len r2]
      rwa [List.length_map] at hi
end
end DL

/-! DT: frames, calls, comprehensions by data (own work). -/
namespace DL
open PySem L2

section
variable {K : PySem.W.Frag} {B B' F F' F0 : Hp} {ro : Ro} {ka k1 k2 k3 kr : Cells} {ta : List (V × W)} {sg : L2.St} {H H' : Hp} {te tf tg : TE} {tl th : TO} {tr : TA} {tt : TT} {w x y z : W} {n : Nd}

/-- H without the cells of kf -/
def off (H : Hp) (kf : Cells) : Hp := fun a => if a ∈ kf.map (·.1) then none else H a
theorem off_in {kf : Cells} {a : Addr} (h : a ∈ kf.map (·.1)) : off H kf a = none := if_pos h
theorem off_out {kf : Cells} {a : Addr} (h : a ∉ kf.map (·.1)) : off H kf a = H a := if_neg h
theorem off_some {kf : Cells} {a : Addr} {o : HO} (h : off H kf a = some o) : a ∉ kf.map (·.1) ∧ H a = some o := by
  unfold off at h
  split at h
  · cases h
  · rename_i q
    exact ⟨q, h⟩
theorem EnF.sub_off (e : EnF K B F ro ka ta sg H) {kf : Cells} (hk : ∀ p ∈ kf, p ∈ ka) : Sub B (off H kf) := fun a o h => by
  have na : a ∉ kf.map (·.1) := fun hm => by
    obtain ⟨p, hp, rfl⟩ := List.mem_map.mp hm
    have := (e.ce p (hk p hp)).2.1
    rw [this] at h
    cases h
  rw [off_out na]
  exact e.fr a o h
theorem uni_subB {B B' F : Hp} (h : Sub B B') : Sub (uni B F) (uni B' F) := fun a u q => by
  unfold uni at q ⊢
  cases hf : F a with
  | some o => rw [hf] at q; exact q
  | none =>
    rw [hf] at q
    cases hb : B a with
    | none => rw [hb] at q; cases q
    | some o => rw [hb] at q; rw [h a o hb]; exact q
theorem wok_subB (n : Nz F) (h : Sub B B') {v : V} {w : W} (q : WOk K B F v w) : WOk K B' F v w := by
  cases w with
  | val d => exact q
  | vw d => exact Rp.mono (uni_subB h).exz (uni_nz n) d v q
/-- the part of a state that a part of the text works on: the cells kf, all else as it stands -/
theorem EnF.into (e : EnF K B F ro (ka ++ kr) ta sg H) {ro' : Ro} {sg' : L2.St} {ta' : List (V × W)} (hl : sg'.length = ro'.length) (hs : ∀ (i : Nat) w, ro'[i]? = some (some w) → ∃ v, sg'[i]? = some (some v) ∧ WOk K B F v w) (ht : ∀ p ∈ ta', p ∈ ta) :
    EnF K (off H ka) F ro' ka ta' sg' H := by
  have hsub : Sub B (off H ka) := e.sub_off fun p hp => List.mem_append_left _ hp
  have nd := e.nd
  rw [List.map_append, List.nodup_append] at nd
  refine ⟨e.nz, e.fz, fun a o h => (off_some h).2, nd.1, fun p hp => ?_, hl, fun i w h => ?_, fun p hp => wok_subB e.nz hsub (e.tm p (ht p hp))⟩
  · obtain ⟨h1, h2, h3⟩ := e.ce p (List.mem_append_left _ hp)
    exact ⟨h1, off_in (List.mem_map.mpr ⟨p, hp, rfl⟩), h3⟩
  · obtain ⟨v, h1, h2⟩ := hs i w h
    exact ⟨v, h1, wok_subB e.nz hsub h2⟩
/-- .. and back -/
theorem EnF.back (e : EnF K B F ro (ka ++ kr) ta sg H) (g : Gr (off H ka) F F') {ro' : Ro} {sg' : L2.St} {ta' : List (V × W)} (e' : EnF K (off H ka) F' ro' k2 ta' sg' H') {tb : List (V × W)} (hb : ∀ p ∈ tb, p ∈ ta ∨ ∃ d, p.2 = .val d ∧ p ∈ ta') :
    Gr B F F' ∧ EnF K B F' ro (k2 ++ kr) tb sg H' := by
  have hsub : Sub B (off H ka) := e.sub_off fun p hp => List.mem_append_left _ hp
  have gg : Gr B F F' := ⟨g.sub, fun a h1 h2 => g.off a h1 fun q => by
    cases hb2 : B a with
    | none => exact h2 hb2
    | some o => rw [hsub a o hb2] at q; cases q⟩
  have nd := e.nd
  rw [List.map_append, List.nodup_append] at nd
  -- the cells that were left stand off what was worked on
  have left : ∀ p ∈ kr, off H ka p.1 ≠ none ∧ H' p.1 = H p.1 := fun p hp => by
    obtain ⟨h1, h2, h3⟩ := e.ce p (List.mem_append_right _ hp)
    have hn : p.1 ∉ ka.map (·.1) := fun hm => nd.2.2 _ hm _ (List.mem_map.mpr ⟨p, hp, rfl⟩) rfl
    cases q : H p.1 with
    | none => exact absurd q (ndok_ne h3)
    | some o =>
      have ho : off H ka p.1 = some o := by rw [off_out hn]; exact q
      exact ⟨by rw [ho]; exact fun z => (by cases z), e'.fr _ _ ho⟩
  refine ⟨gg, e'.nz, e'.fz, hsub.trans e'.fr, ?_, fun p hp => ?_, e.ln, fun i w h => ?_, fun p hp => ?_⟩
  · rw [List.map_append, List.nodup_append]
    refine ⟨e'.nd, nd.2.1, fun a ha b hb => ?_⟩
    obtain ⟨p, hp, rfl⟩ := List.mem_map.mp ha
    obtain ⟨q, hq, rfl⟩ := List.mem_map.mp hb
    intro z
    exact (left q hq).1 (z ▸ (e'.ce p hp).2.1)
  · rcases List.mem_append.mp hp with hp | hp
    · obtain ⟨h1, h2, h3⟩ := e'.ce p hp
      refine ⟨h1, ?_, h3⟩
      cases q : B p.1 with
      | none => rfl
      | some o => rw [hsub _ _ q] at h2; cases h2
    · obtain ⟨h1, h2, h3⟩ := e.ce p (List.mem_append_right _ hp)
      obtain ⟨l1, l2⟩ := left p hp
      exact ⟨g.off _ h1 l1, h2, ndok_at l2 (ndok_gr e.nz gg h3)⟩
  · obtain ⟨v, h1, h2⟩ := e.sl i w h
    exact ⟨v, h1, wok_gr e.nz gg h2⟩
  · rcases hb p hp with q | ⟨d, hd, q⟩
    · exact wok_gr e.nz gg (e.tm p q)
    · have h2 := e'.tm p q
      rw [hd] at h2 ⊢
      exact h2

/-! ### frames -/
theorem EvD.fr {d : D} (h : EvD K te ro ka (.val d) k2) (kr : Cells) : EvD K te ro (ka ++ kr) (.val d) (k2 ++ kr) := fun B F0 ta sg H Q e q => by
  obtain ⟨F, g, e⟩ := e
  refine h (off H ka) F ta sg H Q ⟨F, Gr.refl _ _, e.into e.ln e.sl fun p hp => hp⟩ fun v H' ⟨F', g', e'⟩ => ?_
  obtain ⟨g2, e2⟩ := e.back g' e' (tb := (v, .val d) :: ta) fun p hp => by
    rcases List.mem_cons.mp hp with rfl | hp
    · exact .inr ⟨d, rfl, List.mem_cons_self⟩
    · exact .inl hp
  exact q v H' ⟨F', g.trans g2, e2⟩
theorem EvT.fr {b : Bool} (h : EvT K tt ro ka b k2) (kr : Cells) : EvT K tt ro (ka ++ kr) b (k2 ++ kr) := fun B F0 ta sg H Q e q => by
  obtain ⟨F, g, e⟩ := e
  refine h (off H ka) F ta sg H Q ⟨F, Gr.refl _ _, e.into e.ln e.sl fun p hp => hp⟩ fun H' ⟨F', g', e'⟩ => ?_
  obtain ⟨g2, e2⟩ := e.back g' e' (tb := ta) fun p hp => .inl hp
  exact q H' ⟨F', g.trans g2, e2⟩
theorem En.perm (e : En K B F0 ro ka ta sg H) (h : k1.Perm ka) : En K B F0 ro k1 ta sg H :=
  let ⟨F, g, q⟩ := e
  ⟨F, g, q.perm h⟩
theorem EvN.fr {m : Nd} (h : EvN K te ro ka m k2) (kr : Cells) : EvN K te ro (ka ++ kr) m (k2 ++ kr) := fun B F0 ta sg H Q e q => by
  obtain ⟨F, g, e⟩ := e
  refine h (off H ka) F ta sg H Q ⟨F, Gr.refl _ _, e.into e.ln e.sl fun p hp => hp⟩ fun a H' ⟨F', g', e'⟩ => ?_
  obtain ⟨g2, e2⟩ := e.back g' e' (tb := ta) fun p hp => .inl hp
  refine q a H' ⟨F', g.trans g2, e2.perm ?_⟩
  rw [List.append_assoc, List.append_assoc]
  exact List.Perm.append_left _ List.perm_append_comm

/-! ### calls -/
/-- a call that comes back -/
theorem sp_ret {C : Ct} {ws : List W} {out : Out → Cells → Prop} {vs : List V} {E : XK} {Q : VK} {d : D} (e : En K B F0 ro (ka ++ kr) (vs.zip ws ++ ta) sg H) (hl : vs.length = ws.length) (hC : C ws ka out) (ho : ∀ o k, out o k → o = .ret d ∧ k = k2)
    (q : ∀ v H', En K B F0 ro (k2 ++ kr) ((v, .val d) :: ta) sg H' → Q v H') : spC K C vs H Q E := by
  obtain ⟨F, g, e⟩ := e
  refine ⟨off H ka, F, ws, ka, out, hC, hl, ⟨F, Gr.refl _ _, e.into (ro' := []) (sg' := []) (ta' := vs.zip ws) rfl (fun i w h => by simp at h) fun p hp => List.mem_append_left _ hp⟩, fun d' k v H' o ⟨F', g', e'⟩ => ?_, fun C fs k dx H' o _ => ?_, fun C k H' o _ => ?_⟩
  · obtain ⟨hd, rfl⟩ := ho _ _ o
    cases hd
    obtain ⟨g2, e2⟩ := e.back g' e' (tb := (v, .val d) :: ta) fun p hp => by
      rcases List.mem_cons.mp hp with rfl | hp
      · exact .inr ⟨d, rfl, List.mem_cons_self⟩
      · exact .inl (List.mem_append_right _ hp)
    exact q v H' ⟨F', g.trans g2, e2⟩
  · have := (ho _ _ o).1
    cases this
  · have := (ho _ _ o).1
    cases this
/-- .. the cells that it works on ahead of others -/
theorem ev_callF {C : Ct} {ws : List W} {out : Out → Cells → Prop} {E : XK} {d : D} (kr : Cells) (ha : EvA K tr ro ka ws (k1 ++ kr)) (hC : C ws k1 out) (ho : ∀ o k, out o k → o = .ret d ∧ k = k2) : EvD K (tCall (spC K C) [] E tr) ro ka (.val d) (k2 ++ kr) := fun B F0 ta sg H Q e q =>
  ha B F0 ta sg H _ e fun vs H1 hl e1 => by
    rw [List.append_nil]
    exact sp_ret e1 hl hC ho q
/-! ### comprehensions -/
def wipeR (ro : Ro) : List Nat → Ro
  | [] => ro
  | v :: vs => (wipeR ro vs).set v none
theorem wipe_en : ∀ {vs : List Nat}, EnF K B F ro ka ta sg H → EnF K B F (wipeR ro vs) ka ta (wipe sg vs) H
  | [], e => e
  | v :: vs, e => by
    have e1 := wipe_en (vs := vs) e
    refine e1.frame (by show (List.set _ _ _).length = (List.set _ _ _).length; rw [List.length_set, List.length_set, e1.ln]) fun i w h => ?_
    show ∃ v', ((wipe sg vs).set v none)[i]? = some (some v') ∧ _
    have h' : ((wipeR ro vs).set v none)[i]? = some (some w) := h
    by_cases hi : v = i
    · subst hi
      have hlt : v < (wipeR ro vs).length := by
        have := (List.getElem?_eq_some_iff.mp h').1
        rwa [List.length_set] at this
      rw [List.getElem?_set_self hlt] at h'
      cases h'
    · rw [List.getElem?_set_ne hi] at h' ⊢
      exact e1.sl i w h'
theorem wipe_set (sg : L2.St) (vs : List Nat) {j : Nat} (hj : j ∈ vs) (v : V) : wipe ((wipe sg vs).set j (some v)) vs = wipe sg vs := by
  have key : ∀ (vs : List Nat) (s t : L2.St), s.length = t.length → (∀ i : Nat, i ∉ vs → s[i]? = t[i]?) → wipe s vs = wipe t vs := by
    intro vs
    induction vs with
    | nil =>
      intro s t hl h
      exact List.ext_getElem? fun i => h i (by simp)
    | cons a vs ih =>
      intro s t hl h
      show (wipe s vs).set a none = (wipe t vs).set a none
      apply List.ext_getElem?
      intro i
      by_cases hi : a = i
      · subst hi
        rw [List.getElem?_set, List.getElem?_set, wipe_length, wipe_length, hl, if_pos rfl, if_pos rfl]
      · rw [List.getElem?_set_ne hi, List.getElem?_set_ne hi]
        have gen : ∀ (vs : List Nat) (s t : L2.St), s.length = t.length → ∀ i : Nat, s[i]? = t[i]? → (wipe s vs)[i]? = (wipe t vs)[i]? := by
          intro vs
          induction vs with
          | nil => intro s t _ i h; exact h
          | cons b vs ih2 =>
            intro s t hl i h
            show ((wipe s vs).set b none)[i]? = ((wipe t vs).set b none)[i]?
            rw [List.getElem?_set, List.getElem?_set, wipe_length, wipe_length, hl, ih2 s t hl i h]
        by_cases hv : i ∈ vs
        · have wn : ∀ (vs : List Nat) (s : L2.St) (i : Nat), i ∈ vs → i < s.length → (wipe s vs)[i]? = some none := by
            intro vs
            induction vs with
            | nil => intro s i h; simp at h
            | cons b vs ih2 =>
              intro s i h hlt
              show ((wipe s vs).set b none)[i]? = some none
              by_cases hb : b = i
              · subst hb
                rw [List.getElem?_set_self (by rw [wipe_length]; exact hlt)]
              · rw [List.getElem?_set_ne hb]
                rcases List.mem_cons.mp h with q | q
                · exact absurd q.symm hb
                · exact ih2 s i q hlt
          by_cases hlt : i < s.length
          · rw [wn vs s i hv hlt, wn vs t i hv (hl ▸ hlt)]
          · rw [List.getElem?_eq_none (by rw [wipe_length]; omega), List.getElem?_eq_none (by rw [wipe_length]; omega)]
        · exact gen vs s t hl i (h i (by simp [Ne.symm hi, hv]))
  have idem : ∀ (vs : List Nat) (s : L2.St), wipe (wipe s vs) vs = wipe s vs := fun vs s => key vs _ _ (wipe_length _ _) fun i hi => by
    have gen : ∀ (us : List Nat) (s : L2.St), i ∉ us → (wipe s us)[i]? = s[i]? := by
      intro us
      induction us with
      | nil => intro s _; rfl
      | cons b us ih2 =>
        intro s h
        show ((wipe s us).set b none)[i]? = s[i]?
        rw [List.getElem?_set_ne (fun q => h (by simp [q])), ih2 s fun q => h (List.mem_cons_of_mem _ q)]
    exact gen vs s hi
  have e1 : wipe ((wipe sg vs).set j (some v)) vs = wipe (wipe sg vs) vs := key vs _ _ (by rw [List.length_set]) fun i hi => by
    have hne : j ≠ i := fun q => hi (q ▸ hj)
    exact List.getElem?_set_ne hne
  rw [e1, idem]
/-- a new cell of which R tells -/
def EvNR (K : PySem.W.Frag) (te : TE) (ro : Ro) (ka : Cells) (R : Nd → Cells → Prop) : Prop := ∀ B F0 ta sg H (Q : VK), En K B F0 ro ka ta sg H → (∀ n k a H', R n k → En K B F0 ro (k ++ [(a, n)]) ta sg H' → Q (.ref a) H') → te sg H Q
/-- [e for x in .. if ..]: what is told of the list -/
theorem evr_lc {wi : TI} {ws : List W} {C : Cells → Prop} {j : Nat} {vs : List Nat} (h : EvI K wi ro ka ws C k1) (hj : j ∈ vs) (hn : ws.length ≤ 1000000) (Inv : Nat → List D → Cells → Prop) (h0 : Inv 0 [] k1) (hC : ∀ i acc k, Inv i acc k → C k ∧ ∀ x, C (k ++ [x]))
    (hs : ∀ i w acc k, ws[i]? = some w → Inv i acc k → (∃ k2, EvT K tt ((wipeR ro vs).set j (some w)) k false k2 ∧ Inv (i + 1) acc k2) ∨ ∃ k2 k3 d, EvT K tt ((wipeR ro vs).set j (some w)) k true k2 ∧ EvD K te ((wipeR ro vs).set j (some w)) k2 (.val d) k3 ∧ Inv (i + 1) (acc ++ [d]) k3)
    : EvNR K (tLc wi (gName j) tt te vs) ro ka (fun n k => ∃ acc, n = .lst acc ∧ Inv ws.length acc k) := fun B F0 ta sg H Q e q =>
  h B F0 ta sg H _ e fun J ta' H1 hta e1 hgo hst => fun Dl hD => by
    -- the word: the list so far is the last cell
    let P : Nat → Hp → Prop := fun i H => ∃ acc k, Inv i acc k ∧ acc.length ≤ i ∧ En K B F0 ro (k ++ [(Dl, .lst acc)]) ta' sg H
    have p0 : P 0 (upd H1 Dl (.lst [])) := by
      obtain ⟨F, g, e1⟩ := e1
      exact ⟨[], k1, h0, Nat.le_refl _, F, g, e1.cell (o := .lst []) hD (n := .lst []) ⟨[], upd_same, rfl⟩⟩
    refine ⟨fun i m H => m = ws.length - i ∧ i ≤ ws.length ∧ P i H, ⟨ws.length, by simp, Nat.zero_le _, p0⟩, ?_⟩
    rintro i m H2 ⟨rfl, hi, acc, k, inv, hlen, e2⟩
    by_cases hlt : i < ws.length
    · have hw := List.getElem?_eq_getElem hlt
      obtain ⟨g1, g2⟩ := hgo i ws[i] ro (k ++ [(Dl, .lst acc)]) ta' sg H2 hw ((hC i acc k inv).2 _) (fun p hp => hp) e2
      refine .inr ⟨g1, P (i + 1), fun H' p => ⟨ws.length - (i + 1), by omega, rfl, hlt, p⟩, fun x H3 y => ?_⟩
      have e3 := g2 x H3 y
      refine ⟨wipe_set sg vs hj x, ?_⟩
      -- within the block
      have e4 : En K B F0 ((wipeR ro vs).set j (some ws[i])) (k ++ [(Dl, .lst acc)]) ta' ((wipe sg vs).set j (some x)) H3 := by
        obtain ⟨F, g, e3⟩ := e3
        exact ⟨F, g, ((wipe_en (vs := vs) e3).set (e3.tm _ List.mem_cons_self) j).held fun p hp => List.mem_cons_of_mem _ hp⟩
      -- and back out of it
      have out : ∀ {k : Cells} {ta2 : List (V × W)} {H : Hp}, (∃ F, Gr B F0 F ∧ EnF K B F ((wipeR ro vs).set j (some ws[i])) k ta2 ((wipe sg vs).set j (some x)) H ∧ ∀ (a : Nat) w, ro[a]? = some (some w) → ∃ v, sg[a]? = some (some v) ∧ WOk K B F v w) → En K B F0 ro k ta2 sg H := fun ⟨F, g, q, hs⟩ => ⟨F, g, q.frame (by obtain ⟨_, _, e0⟩ := e; exact e0.ln) hs⟩
      obtain ⟨F3, gF3, eF3⟩ := e3
      have slots : ∀ {F : Hp}, Gr B F3 F → ∀ (a : Nat) w, ro[a]? = some (some w) → ∃ v, sg[a]? = some (some v) ∧ WOk K B F v w := fun {F} g a w ha => by
        obtain ⟨v, h1, h2⟩ := eF3.sl a w ha
        exact ⟨v, h1, wok_gr eF3.nz g h2⟩
      have e4' : En K B F3 ((wipeR ro vs).set j (some ws[i])) (k ++ [(Dl, .lst acc)]) ta' ((wipe sg vs).set j (some x)) H3 :=
        ⟨F3, Gr.refl _ _, ((wipe_en (vs := vs) eF3).set (eF3.tm _ List.mem_cons_self) j).held fun p hp => List.mem_cons_of_mem _ hp⟩
      rcases hs i ws[i] acc k hw inv with ⟨k2, t1, inv2⟩ | ⟨k2, k3, d, t1, t2, inv2⟩
      · refine t1.fr [(Dl, .lst acc)] B F3 ta' _ H3 _ e4' fun H4 ⟨F4, g4, e5⟩ => ?_
        exact ⟨acc, k2, inv2, Nat.le_succ_of_le hlen, out ⟨F4, gF3.trans g4, e5, slots g4⟩⟩
      · refine t1.fr [(Dl, .lst acc)] B F3 ta' _ H3 _ e4' fun H4 e5 => ?_
        refine t2.fr [(Dl, .lst acc)] B F3 ta' _ H4 _ e5 fun v H5 ⟨F5, g5, e6⟩ => ?_
        have hx : (k3 ++ [(Dl, Nd.lst acc)])[k3.length]? = some (Dl, Nd.lst acc) := by simp
        obtain ⟨xs, h1, h2⟩ := e6.rd_lst hx
        have hv := e6.tm _ List.mem_cons_self
        have e7 := e6.write (o := .lst (xs ++ [v])) (n' := .lst (acc ++ [d])) hx ⟨_, upd_same, rpl_app h2 ⟨v, [], rfl, hv, rfl⟩⟩
        have hset : (k3 ++ [(Dl, Nd.lst acc)]).set k3.length (Dl, Nd.lst (acc ++ [d])) = k3 ++ [(Dl, Nd.lst (acc ++ [d]))] := by
          rw [List.set_append_right _ _ (Nat.le_refl _)]
          simp
        rw [hset] at e7
        refine ⟨xs, h1, by rw [rpl_len h2]; exact Nat.lt_of_le_of_lt (Nat.le_trans hlen (Nat.le_trans hi hn)) (by decide), acc ++ [d], k3, inv2, by rw [List.length_append]; exact Nat.succ_le_succ hlen, ?_⟩
        exact out ⟨F5, gF3.trans g5, e7.held fun p hp => List.mem_cons_of_mem _ hp, slots g5⟩
    · have ei : i = ws.length := by omega
      subst ei
      refine .inl ⟨hst _ ro (k ++ [(Dl, .lst acc)]) ta' sg H2 (Nat.le_refl _) ((hC _ acc k inv).2 _) (fun p hp => hp) e2, ?_⟩
      exact q _ _ Dl H2 ⟨acc, rfl, inv⟩ (e2.held hta)
/-- [e for x in .. if ..] -/
theorem evn_lc {wi : TI} {ws : List W} {C : Cells → Prop} {j : Nat} {vs : List Nat} (h : EvI K wi ro ka ws C k1) (hj : j ∈ vs) (hn : ws.length ≤ 1000000) (Inv : Nat → List D → Cells → Prop) (h0 : Inv 0 [] k1) (hC : ∀ i acc k, Inv i acc k → C k ∧ ∀ x, C (k ++ [x]))
    (hs : ∀ i w acc k, ws[i]? = some w → Inv i acc k → (∃ k2, EvT K tt ((wipeR ro vs).set j (some w)) k false k2 ∧ Inv (i + 1) acc k2) ∨ ∃ k2 k3 d, EvT K tt ((wipeR ro vs).set j (some w)) k true k2 ∧ EvD K te ((wipeR ro vs).set j (some w)) k2 (.val d) k3 ∧ Inv (i + 1) (acc ++ [d]) k3)
    {ds : List D} {kz : Cells} (hd : ∀ acc k, Inv ws.length acc k → acc = ds ∧ k = kz) : EvN K (tLc wi (gName j) tt te vs) ro ka (.lst ds) kz := fun B F0 ta sg H Q e q => evr_lc h hj hn Inv h0 hC hs B F0 ta sg H Q e fun n k a H' ⟨acc, hn', inv⟩ e' => by
  subst hn'
  obtain ⟨rfl, rfl⟩ := hd acc k inv
  exact q a H' e'
end
end DL

/-! DE: equality of data (own work). -/
namespace DL
open PySem L2 PySem.SeqAt

mutual
def eqD : D → D → Bool
  | .non, .non => true
  | .bl a, .bl b => a == b
  | .bl a, .int j => (if a then 1 else 0) == j
  | .int i, .bl b => i == (if b then 1 else 0)
  | .int i, .int j => i == j
  | .str x, .str y => x == y
  | .lst xs, .lst ys => eqL xs ys
  | .tup xs, .tup ys => eqL xs ys
  | _, _ => false
def eqL : List D → List D → Bool
  | [], [] => true
  | x :: xs, y :: ys => eqD x y && eqL xs ys
  | _, _ => false
end
/-- plain data: numbers, texts, lists and tuples of these, at most n deep -/
def pl : Nat → D → Bool
  | _, .non => true
  | _, .bl _ => true
  | _, .int _ => true
  | _, .str _ => true
  | n + 1, .lst ds => ds.all (pl n)
  | n + 1, .tup ds => ds.all (pl n)
  | _, _ => false
theorem eqL_len : ∀ {xs ys : List D}, eqL xs ys = true → xs.length = ys.length
  | [], [], _ => rfl
  | [], _ :: _, h => by cases h
  | _ :: _, [], h => by cases h
  | x :: xs, y :: ys, h => by
    have h2 := (Bool.and_eq_true_iff.mp (show (eqD x y && eqL xs ys) = true from h)).2
    rw [List.length_cons, List.length_cons, eqL_len h2]
theorem eqL_ne {xs ys : List D} (h : xs.length ≠ ys.length) : eqL xs ys = false := by
  cases q : eqL xs ys with
  | false => rfl
  | true => exact absurd (eqL_len q) h
/-- equal item by item -/
theorem eqL_all : ∀ (xs ys : List D), xs.length = ys.length → eqL xs ys = (List.range xs.length).all fun j => eqD (xs.getD j .non) (ys.getD j .non)
  | [], [], _ => rfl
  | [], _ :: _, h => by cases h
  | _ :: _, [], h => by cases h
  | x :: xs, y :: ys, h => by
    have ih := eqL_all xs ys (by simpa using h)
    show (eqD x y && eqL xs ys) = _
    rw [ih, List.length_cons, List.range_succ_eq_map, List.all_cons, List.all_map]
    rfl
theorem eqD_refl (n : Nat) : ∀ (d : D), pl n d = true → eqD d d = true := by
  induction n with
  | zero =>
    intro d h
    cases d <;> first | rfl | exact beq_self_eq_true _ | cases h
  | succ n ih =>
    have hl : ∀ ds : List D, ds.all (pl n) = true → eqL ds ds = true := by
      intro ds
      induction ds with
      | nil => intro _; rfl
      | cons d ds ih2 =>
        intro h
        rw [List.all_cons] at h
        obtain ⟨h1, h2⟩ := Bool.and_eq_true_iff.mp h
        show (eqD d d && eqL ds ds) = true
        rw [ih d h1, ih2 h2] <;> rfl
    intro d h
    cases d with
    | lst ds => exact hl ds h
    | tup ds => exact hl ds h
    | _ => first | rfl | exact beq_self_eq_true _ | cases h
section
variable {X : Cx} {pins : List (Addr × Obj)} {sg : L2.St} {H G : Hp} {s : Shared}
/-- the same value, two readings: equal -/
theorem eqD_same (I : Inv X pins sg H s) (fz : Exz G H) (nz : Nz G) (n : Nat) : ∀ (d e : D) (v : V), pl n d = true → pl n e = true → Rp X.K G d v → Rp X.K G e v → eqD d e = true := by
  induction n with
  | zero =>
    intro d e v h1 h2 r1 r2
    cases d <;> first | (exact absurd h1 Bool.false_ne_true) | skip
    all_goals cases e <;> first | (exact absurd h2 Bool.false_ne_true) | skip
    all_goals (have q := Eq.trans (Eq.symm (show v = _ from r1)) (show v = _ from r2); first | rfl | (cases q <;> first | rfl | exact beq_self_eq_true _))
  | succ n ih =>
    have hl : ∀ (ds es : List D) (xs : List V), ds.all (pl n) = true → es.all (pl n) = true → RpL X.K G ds xs → RpL X.K G es xs → eqL ds es = true := by
      intro ds
      induction ds with
      | nil =>
        intro es xs _ _ r1 r2
        cases es with
        | nil => rfl
        | cons e es =>
          obtain ⟨x, ys, hx, _⟩ := r2
          rw [show xs = [] from r1] at hx
          cases hx
      | cons d ds ih2 =>
        intro es xs h1 h2 r1 r2
        obtain ⟨x, ys, rfl, a1, a2⟩ := r1
        cases es with
        | nil => cases (show x :: ys = [] from r2)
        | cons e es =>
          obtain ⟨x', ys', hx, b1, b2⟩ := r2
          cases hx
          rw [List.all_cons] at h1 h2
          obtain ⟨c1, c2⟩ := Bool.and_eq_true_iff.mp h1
          obtain ⟨e1, e2⟩ := Bool.and_eq_true_iff.mp h2
          show (eqD d e && eqL ds es) = true
          rw [ih d e x c1 e1 a1 b1, ih2 es ys c2 e2 a2 b2] <;> rfl
    intro d e v h1 h2 r1 r2
    cases d <;> first | (exact absurd h1 Bool.false_ne_true) | skip
    all_goals cases e <;> first | (exact absurd h2 Bool.false_ne_true) | skip
    case tup.tup ds es =>
      obtain ⟨a, xs, rfl, q1, q2⟩ := r1
      obtain ⟨a', ys, e', p1, p2⟩ := r2
      cases e'
      have hxy := I.tuple_inj (sqT_mono fz nz q1) (sqT_mono fz nz p1)
      subst hxy
      exact hl ds es xs h1 h2 q2 p2
    case lst.lst ds es =>
      obtain ⟨a, xs, rfl, q1, q2⟩ := r1
      obtain ⟨a', ys, e', p1, p2⟩ := r2
      cases e'
      have hxy := I.list_inj (.inl (fz.rd nz q1)) (.inl (fz.rd nz p1))
      subst hxy
      exact hl ds es xs h1 h2 q2 p2
    case tup.lst ds es =>
      obtain ⟨a, xs, rfl, q1, q2⟩ := r1
      obtain ⟨a', ys, e', p1, p2⟩ := r2
      cases e'
      obtain ⟨its, _, t1, _⟩ := I.tuple (sqT_mono fz nz q1)
      obtain ⟨its2, _, t2, _⟩ := I.list (.inl (fz.rd nz p1))
      exact absurd rfl (ne_of_list_tuple t2.isList t1)
    case lst.tup ds es =>
      obtain ⟨a, xs, rfl, q1, q2⟩ := r1
      obtain ⟨a', ys, e', p1, p2⟩ := r2
      cases e'
      obtain ⟨its, _, t1, _⟩ := I.tuple (sqT_mono fz nz p1)
      obtain ⟨its2, _, t2, _⟩ := I.list (.inl (fz.rd nz q1))
      exact absurd rfl (ne_of_list_tuple t2.isList t1)
    all_goals first
      | (obtain ⟨a, xs, rfl, _⟩ := r1; cases (show V.ref a = _ from r2))
      | (obtain ⟨a, xs, rfl, _⟩ := r2; cases (show V.ref a = _ from r1))
      | (have q := Eq.trans (Eq.symm (show v = _ from r1)) (show v = _ from r2); first | rfl | (cases q <;> first | rfl | exact beq_self_eq_true _))
/-- the items' equality, by place -/
theorem items_eq {n : Nat} {A : Around} (ih : ∀ (d e : D) (A : Around) (v w : V) (u u' : Value), pl n d = true → pl n e = true → Rp X.K G d v → Rp X.K G e w → RelV v u → RelV w u' → A.units + n < cLine → EqAt A s u u' (eqD d e))
    {ds es : List D} {xs ys : List V} {its its2 : List Value} (h1 : ds.all (pl n) = true) (h2 : es.all (pl n) = true) (r1 : RpL X.K G ds xs) (r2 : RpL X.K G es ys) (q1 : Vals xs its) (q2 : Vals ys its2) (hu : A.units + (n + 1) < cLine) :
    ∀ j (l1 : j < its.toArray.size) (l2 : j < its2.toArray.size), EqAt A.in1 s its.toArray[j] its2.toArray[j] (eqD (ds.getD j .non) (es.getD j .non)) := fun j l1 l2 => by
  have k1 : j < its.length := by simpa using l1
  have k2 : j < its2.length := by simpa using l2
  have m1 : j < ds.length := by rw [← rpl_len r1, q1.length]; exact k1
  have m2 : j < es.length := by rw [← rpl_len r2, q2.length]; exact k2
  obtain ⟨v, hv, rv⟩ := rpl_get r1 (List.getElem?_eq_getElem m1)
  obtain ⟨w, hw, rw2⟩ := rpl_get r2 (List.getElem?_eq_getElem m2)
  obtain ⟨u, hu1, ru⟩ := q1.get hv
  obtain ⟨u', hu2, ru'⟩ := q2.get hw
  have e1 : its.toArray[j] = u := by
    rw [List.getElem?_eq_getElem k1] at hu1
    simpa using hu1
  have e2 : its2.toArray[j] = u' := by
    rw [List.getElem?_eq_getElem k2] at hu2
    simpa using hu2
  have g1 : ds.getD j .non = ds[j] := by simp [List.getD, List.getElem?_eq_getElem m1]
  have g2 : es.getD j .non = es[j] := by simp [List.getD, List.getElem?_eq_getElem m2]
  rw [e1, e2, g1, g2]
  exact ih _ _ A.in1 v w u u' (List.all_eq_true.mp h1 _ (List.getElem_mem m1)) (List.all_eq_true.mp h2 _ (List.getElem_mem m2)) rv rw2 ru ru' (by show A.units + 1 + n < cLine; omega)
theorem list_flat {A : Around} {a : Addr} {its : Array Value} (h : s.heap.IsList a its) (hu : A.units < cLine) : ∀ {w : V} {u : Value}, RelV w u → flatV w = true → EqAt A s (.ref a) u false ∧ EqAt A s u (.ref a) false
  | .non, u, r, _ => by
    cases r
    exact ⟨EqAt.list_none h hu, EqAt.none_list h hu⟩
  | .bl b, u, r, _ => by
    cases r
    exact ⟨EqAt.list_bool b h hu, EqAt.bool_list b h hu⟩
  | .int i, u, r, _ => by
    obtain ⟨t, rfl⟩ := r
    exact ⟨EqAt.list_int i t h hu, EqAt.int_list i t h hu⟩
  | .str z, u, r, _ => by
    obtain ⟨t, rfl⟩ := r
    exact ⟨EqAt.list_str z t h hu, EqAt.str_list z t h hu⟩
  | .byt _, _, _, f => absurd f Bool.false_ne_true
  | .flt _, _, _, f => absurd f Bool.false_ne_true
  | .ref _, _, _, f => absurd f Bool.false_ne_true
  | .ty _, _, _, f => absurd f Bool.false_ne_true
theorem tup_flat {A : Around} {a : Addr} {its : Array Value} (h : s.heap.IsTuple a its) (hu : A.units < cLine) : ∀ {w : V} {u : Value}, RelV w u → flatV w = true → EqAt A s (.ref a) u false ∧ EqAt A s u (.ref a) false
  | .non, u, r, _ => by
    cases r
    exact ⟨EqAt.tuple_none h hu, EqAt.none_tuple h hu⟩
  | .bl b, u, r, _ => by
    cases r
    exact ⟨EqAt.tuple_bool b h hu, EqAt.bool_tuple b h hu⟩
  | .int i, u, r, _ => by
    obtain ⟨t, rfl⟩ := r
    exact ⟨EqAt.tuple_int i t h hu, EqAt.int_tuple i t h hu⟩
  | .str z, u, r, _ => by
    obtain ⟨t, rfl⟩ := r
    exact ⟨EqAt.tuple_str z t h hu, EqAt.str_tuple z t h hu⟩
  | .byt _, _, _, f => absurd f Bool.false_ne_true
  | .flt _, _, _, f => absurd f Bool.false_ne_true
  | .ref _, _, _, f => absurd f Bool.false_ne_true
  | .ty _, _, _, f => absurd f Bool.false_ne_true
/-- flat data -/
def fl : D → Bool
  | .non => true
  | .bl _ => true
  | .int _ => true
  | .str _ => true
  | _ => false
theorem fl_v : ∀ {d : D} {v : V}, fl d = true → Rp X.K G d v → flatV v = true
  | .non, v, _, h => by rw [show v = _ from h]; rfl
  | .bl _, v, _, h => by rw [show v = _ from h]; rfl
  | .int _, v, _, h => by rw [show v = _ from h]; rfl
  | .str _, v, _, h => by rw [show v = _ from h]; rfl
theorem fl_eq : ∀ {d e : D} {v w : V}, fl d = true → fl e = true → Rp X.K G d v → Rp X.K G e w → eqV v w = eqD d e := by
  intro d e v w h1 h2 r1 r2
  cases d <;> first | (exact absurd h1 Bool.false_ne_true) | skip
  all_goals cases e <;> first | (exact absurd h2 Bool.false_ne_true) | skip
  all_goals (have z1 := (show v = _ from r1); have z2 := (show w = _ from r2); subst z1 z2; rfl)
theorem eqAt_D (I : Inv X pins sg H s) (fz : Exz G H) (nz : Nz G) (n : Nat) : ∀ (d e : D) (A : Around) (v w : V) (u u' : Value), pl n d = true → pl n e = true → Rp X.K G d v → Rp X.K G e w → RelV v u → RelV w u' → A.units + n < cLine → EqAt A s u u' (eqD d e) := by
  have flat : ∀ (A : Around) (d e : D) (v w : V) (u u' : Value), RelV v u → RelV w u' → flatV v = true → flatV w = true → eqV v w = eqD d e → EqAt A s u u' (eqD d e) := fun A d e v w u u' r1 r2 f1 f2 q => q ▸ eqAt_V r1 r2 f1 f2
  induction n with
  | zero =>
    intro d e A v w u u' h1 h2 r1 r2 q1 q2 hu
    cases d <;> first | (exact absurd h1 Bool.false_ne_true) | skip
    all_goals cases e <;> first | (exact absurd h2 Bool.false_ne_true) | skip
    all_goals (have z1 := (show v = _ from r1); have z2 := (show w = _ from r2); subst z1 z2; exact flat A _ _ _ _ _ _ q1 q2 rfl rfl rfl)
  | succ n ih =>
    intro d e A v w u u' h1 h2 r1 r2 q1 q2 hu
    have hu0 : A.units < cLine := by omega
    have lstf : ∀ {ds : List D} {e : D}, Rp X.K G (.lst ds) v → fl e = true → Rp X.K G e w → RelV v u → RelV w u' → EqAt A s u u' false := fun {ds e} r1 f r2 q1 q2 => by
      obtain ⟨a, xs, rfl, a1, a2⟩ := r1
      cases q1
      obtain ⟨its, t1, t2, _⟩ := I.list (.inl (fz.rd nz a1))
      exact (list_flat t2.isList hu0 q2 (fl_v f r2)).1
    have tupf : ∀ {ds : List D} {e : D}, Rp X.K G (.tup ds) v → fl e = true → Rp X.K G e w → RelV v u → RelV w u' → EqAt A s u u' false := fun {ds e} r1 f r2 q1 q2 => by
      obtain ⟨a, xs, rfl, a1, a2⟩ := r1
      cases q1
      obtain ⟨its, t1, t2, _⟩ := I.tuple (sqT_mono fz nz a1)
      exact (tup_flat t2 hu0 q2 (fl_v f r2)).1
    have flst : ∀ {ds : List D} {e : D}, Rp X.K G e v → fl e = true → Rp X.K G (.lst ds) w → RelV v u → RelV w u' → EqAt A s u u' false := fun {ds e} r1 f r2 q1 q2 => by
      obtain ⟨a, xs, rfl, a1, a2⟩ := r2
      cases q2
      obtain ⟨its, t1, t2, _⟩ := I.list (.inl (fz.rd nz a1))
      exact (list_flat t2.isList hu0 q1 (fl_v f r1)).2
    have ftup : ∀ {ds : List D} {e : D}, Rp X.K G e v → fl e = true → Rp X.K G (.tup ds) w → RelV v u → RelV w u' → EqAt A s u u' false := fun {ds e} r1 f r2 q1 q2 => by
      obtain ⟨a, xs, rfl, a1, a2⟩ := r2
      cases q2
      obtain ⟨its, t1, t2, _⟩ := I.tuple (sqT_mono fz nz a1)
      exact (tup_flat t2 hu0 q1 (fl_v f r1)).2
    cases d <;> first | (exact absurd h1 Bool.false_ne_true) | skip
    all_goals cases e <;> first | (exact absurd h2 Bool.false_ne_true) | skip
    case lst.lst ds es =>
      by_cases hab : v = w
      · subst hab
        have hue : u = u' := by
          obtain ⟨a, xs, rfl, _⟩ := r1
          rw [show u = Value.ref a from q1, show u' = Value.ref a from q2]
        subst hue
        rw [eqD_same I fz nz (n + 1) _ _ v h1 h2 r1 r2]
        exact EqAt.same _
      · obtain ⟨a, xs, rfl, a1, a2⟩ := r1
        obtain ⟨b, ys, rfl, b1, b2⟩ := r2
        cases q1
        cases q2
        obtain ⟨its, t1, t2, _⟩ := I.list (.inl (fz.rd nz a1))
        obtain ⟨its2, t3, t4, _⟩ := I.list (.inl (fz.rd nz b1))
        have l1 : its.toArray.size = ds.length := by rw [List.size_toArray, ← t1.length, rpl_len a2]
        have l2 : its2.toArray.size = es.length := by rw [List.size_toArray, ← t3.length, rpl_len b2]
        show EqAt A s _ _ (eqL ds es)
        by_cases hl : ds.length = es.length
        · rw [eqL_all ds es hl, ← l1]
          exact EqAt.of_refs (fun z => hab (by rw [z])) (RcAt.lists t2.isList t4.isList (by omega) hu0 (items_eq ih h1 h2 a2 b2 t1 t3 hu))
        · rw [eqL_ne hl]
          exact EqAt.of_refs (fun z => hab (by rw [z])) (RcAt.lists_lengths t2.isList t4.isList (by simp only [bne_iff_ne]; omega) hu0)
    case tup.tup ds es =>
      by_cases hab : v = w
      · subst hab
        have hue : u = u' := by
          obtain ⟨a, xs, rfl, _⟩ := r1
          rw [show u = Value.ref a from q1, show u' = Value.ref a from q2]
        subst hue
        rw [eqD_same I fz nz (n + 1) _ _ v h1 h2 r1 r2]
        exact EqAt.same _
      · obtain ⟨a, xs, rfl, a1, a2⟩ := r1
        obtain ⟨b, ys, rfl, b1, b2⟩ := r2
        cases q1
        cases q2
        obtain ⟨its, t1, t2, _⟩ := I.tuple (sqT_mono fz nz a1)
        obtain ⟨its2, t3, t4, _⟩ := I.tuple (sqT_mono fz nz b1)
        have l1 : its.toArray.size = ds.length := by rw [List.size_toArray, ← t1.length, rpl_len a2]
        have l2 : its2.toArray.size = es.length := by rw [List.size_toArray, ← t3.length, rpl_len b2]
        have main := RcAt.tuples t2 t4 hu0 (items_eq ih h1 h2 a2 b2 t1 t3 hu)
        have key : ((List.range (min its.toArray.size its2.toArray.size)).all (fun j => eqD (ds.getD j .non) (es.getD j .non)) && its.toArray.size == its2.toArray.size) = eqL ds es := by
          by_cases hl : ds.length = es.length
          · rw [eqL_all ds es hl, l1, l2, hl]
            simp
          · rw [eqL_ne hl, l1, l2]
            simp [hl]
        rw [key] at main
        exact EqAt.of_refs (fun z => hab (by rw [z])) main
    case lst.tup ds es =>
      obtain ⟨a, xs, rfl, a1, a2⟩ := r1
      obtain ⟨b, ys, rfl, b1, b2⟩ := r2
      cases q1
      cases q2
      obtain ⟨its, t1, t2, _⟩ := I.list (.inl (fz.rd nz a1))
      obtain ⟨its2, t3, t4, _⟩ := I.tuple (sqT_mono fz nz b1)
      exact EqAt.list_tuple t2.isList t4 hu0
    case tup.lst ds es =>
      obtain ⟨a, xs, rfl, a1, a2⟩ := r1
      obtain ⟨b, ys, rfl, b1, b2⟩ := r2
      cases q1
      cases q2
      obtain ⟨its, t1, t2, _⟩ := I.tuple (sqT_mono fz nz a1)
      obtain ⟨its2, t3, t4, _⟩ := I.list (.inl (fz.rd nz b1))
      exact EqAt.tuple_list t2 t4.isList hu0
    case lst.non => exact lstf r1 rfl r2 q1 q2
    case lst.bl => exact lstf r1 rfl r2 q1 q2
    case lst.int => exact lstf r1 rfl r2 q1 q2
    case lst.str => exact lstf r1 rfl r2 q1 q2
    case tup.non => exact tupf r1 rfl r2 q1 q2
    case tup.bl => exact tupf r1 rfl r2 q1 q2
    case tup.int => exact tupf r1 rfl r2 q1 q2
    case tup.str => exact tupf r1 rfl r2 q1 q2
    case non.lst => exact flst r1 rfl r2 q1 q2
    case bl.lst => exact flst r1 rfl r2 q1 q2
    case int.lst => exact flst r1 rfl r2 q1 q2
    case str.lst => exact flst r1 rfl r2 q1 q2
    case non.tup => exact ftup r1 rfl r2 q1 q2
    case bl.tup => exact ftup r1 rfl r2 q1 q2
    case int.tup => exact ftup r1 rfl r2 q1 q2
    case str.tup => exact ftup r1 rfl r2 q1 q2
    all_goals (have z1 := (show v = _ from r1); have z2 := (show w = _ from r2); subst z1 z2; exact flat A _ _ _ _ _ _ q1 q2 rfl rfl rfl)
end
end DL

/-! DQ: == and != of data, at the top (printed by gen_eq.py, own work). -/
namespace DL
open PySem L2 PySem.SeqAt
section
variable {X : Cx} {pins : List (Addr × Obj)} {sg : L2.St} {H G : Hp} {s : Shared}

theorem rc_flat {A : Around} : ∀ {v w : V} {u u' : Value}, RelV v u → RelV w u' → flatV v = true → flatV w = true → RcAt A s u u' (eqV v w)
  | .non, .non, u, u', r1, r2, _, _ => by
    cases r1
    cases r2
    exact RcAt.none_none
  | .non, .bl b2, u, u', r1, r2, _, _ => by
    cases r1
    cases r2
    exact RcAt.none_bool b2
  | .non, .int i2, u, u', r1, r2, _, _ => by
    cases r1
    obtain ⟨t2, rfl⟩ := r2
    exact RcAt.none_int i2 t2
  | .non, .str z2, u, u', r1, r2, _, _ => by
    cases r1
    obtain ⟨t2, rfl⟩ := r2
    exact RcAt.none_str z2 t2
  | .bl b1, .non, u, u', r1, r2, _, _ => by
    cases r1
    cases r2
    exact RcAt.bool_none b1
  | .bl b1, .bl b2, u, u', r1, r2, _, _ => by
    cases r1
    cases r2
    exact RcAt.bool_bool b1 b2
  | .bl b1, .int i2, u, u', r1, r2, _, _ => by
    cases r1
    obtain ⟨t2, rfl⟩ := r2
    exact RcAt.bool_int b1 i2 t2
  | .bl b1, .str z2, u, u', r1, r2, _, _ => by
    cases r1
    obtain ⟨t2, rfl⟩ := r2
    exact RcAt.bool_str b1 z2 t2
  | .int i1, .non, u, u', r1, r2, _, _ => by
    obtain ⟨t1, rfl⟩ := r1
    cases r2
    exact RcAt.int_none i1 t1
  | .int i1, .bl b2, u, u', r1, r2, _, _ => by
    obtain ⟨t1, rfl⟩ := r1
    cases r2
    exact RcAt.int_bool i1 t1 b2
  | .int i1, .int i2, u, u', r1, r2, _, _ => by
    obtain ⟨t1, rfl⟩ := r1
    obtain ⟨t2, rfl⟩ := r2
    exact RcAt.int_int i1 t1 i2 t2
  | .int i1, .str z2, u, u', r1, r2, _, _ => by
    obtain ⟨t1, rfl⟩ := r1
    obtain ⟨t2, rfl⟩ := r2
    exact RcAt.int_str i1 t1 z2 t2
  | .str z1, .non, u, u', r1, r2, _, _ => by
    obtain ⟨t1, rfl⟩ := r1
    cases r2
    exact RcAt.str_none z1 t1
  | .str z1, .bl b2, u, u', r1, r2, _, _ => by
    obtain ⟨t1, rfl⟩ := r1
    cases r2
    exact RcAt.str_bool z1 t1 b2
  | .str z1, .int i2, u, u', r1, r2, _, _ => by
    obtain ⟨t1, rfl⟩ := r1
    obtain ⟨t2, rfl⟩ := r2
    exact RcAt.str_int z1 t1 i2 t2
  | .str z1, .str z2, u, u', r1, r2, _, _ => by
    obtain ⟨t1, rfl⟩ := r1
    obtain ⟨t2, rfl⟩ := r2
    exact RcAt.str_str z1 t1 z2 t2
  | .byt _, _, _, _, _, _, f, _ => absurd f Bool.false_ne_true
  | .flt _, _, _, _, _, _, f, _ => absurd f Bool.false_ne_true
  | .ref _, _, _, _, _, _, f, _ => absurd f Bool.false_ne_true
  | .ty _, _, _, _, _, _, f, _ => absurd f Bool.false_ne_true
  | .non, .byt _, _, _, _, _, _, f => absurd f Bool.false_ne_true
  | .bl _, .byt _, _, _, _, _, _, f => absurd f Bool.false_ne_true
  | .int _, .byt _, _, _, _, _, _, f => absurd f Bool.false_ne_true
  | .str _, .byt _, _, _, _, _, _, f => absurd f Bool.false_ne_true
  | .non, .flt _, _, _, _, _, _, f => absurd f Bool.false_ne_true
  | .bl _, .flt _, _, _, _, _, _, f => absurd f Bool.false_ne_true
  | .int _, .flt _, _, _, _, _, _, f => absurd f Bool.false_ne_true
  | .str _, .flt _, _, _, _, _, _, f => absurd f Bool.false_ne_true
  | .non, .ref _, _, _, _, _, _, f => absurd f Bool.false_ne_true
  | .bl _, .ref _, _, _, _, _, _, f => absurd f Bool.false_ne_true
  | .int _, .ref _, _, _, _, _, _, f => absurd f Bool.false_ne_true
  | .str _, .ref _, _, _, _, _, _, f => absurd f Bool.false_ne_true
  | .non, .ty _, _, _, _, _, _, f => absurd f Bool.false_ne_true
  | .bl _, .ty _, _, _, _, _, _, f => absurd f Bool.false_ne_true
  | .int _, .ty _, _, _, _, _, _, f => absurd f Bool.false_ne_true
  | .str _, .ty _, _, _, _, _, _, f => absurd f Bool.false_ne_true
theorem rc_list {A : Around} {a : Addr} {its : Array Value} (h : s.heap.IsList a its) (hu : A.units < cLine) : ∀ {w : V} {u : Value}, RelV w u → flatV w = true → RcAt A s (.ref a) u false ∧ RcAt A s u (.ref a) false
  | .non, u, r, _ => by
    cases r
    exact ⟨RcAt.list_none h hu, RcAt.none_list h hu⟩
  | .bl b2, u, r, _ => by
    cases r
    exact ⟨RcAt.list_bool b2 h hu, RcAt.bool_list b2 h hu⟩
  | .int i2, u, r, _ => by
    obtain ⟨t2, rfl⟩ := r
    exact ⟨RcAt.list_int i2 t2 h hu, RcAt.int_list i2 t2 h hu⟩
  | .str z2, u, r, _ => by
    obtain ⟨t2, rfl⟩ := r
    exact ⟨RcAt.list_str z2 t2 h hu, RcAt.str_list z2 t2 h hu⟩
  | .byt _, _, _, f => absurd f Bool.false_ne_true
  | .flt _, _, _, f => absurd f Bool.false_ne_true
  | .ref _, _, _, f => absurd f Bool.false_ne_true
  | .ty _, _, _, f => absurd f Bool.false_ne_true
theorem rc_tuple {A : Around} {a : Addr} {its : Array Value} (h : s.heap.IsTuple a its) (hu : A.units < cLine) : ∀ {w : V} {u : Value}, RelV w u → flatV w = true → RcAt A s (.ref a) u false ∧ RcAt A s u (.ref a) false
  | .non, u, r, _ => by
    cases r
    exact ⟨RcAt.tuple_none h hu, RcAt.none_tuple h hu⟩
  | .bl b2, u, r, _ => by
    cases r
    exact ⟨RcAt.tuple_bool b2 h hu, RcAt.bool_tuple b2 h hu⟩
  | .int i2, u, r, _ => by
    obtain ⟨t2, rfl⟩ := r
    exact ⟨RcAt.tuple_int i2 t2 h hu, RcAt.int_tuple i2 t2 h hu⟩
  | .str z2, u, r, _ => by
    obtain ⟨t2, rfl⟩ := r
    exact ⟨RcAt.tuple_str z2 t2 h hu, RcAt.str_tuple z2 t2 h hu⟩
  | .byt _, _, _, f => absurd f Bool.false_ne_true
  | .flt _, _, _, f => absurd f Bool.false_ne_true
  | .ref _, _, _, f => absurd f Bool.false_ne_true
  | .ty _, _, _, f => absurd f Bool.false_ne_true
theorem rc_D (I : Inv X pins sg H s) (fz : Exz G H) (nz : Nz G) (n : Nat) (d e : D) (A : Around) (v w : V) (u u' : Value) (h1 : pl (n + 1) d = true) (h2 : pl (n + 1) e = true) (r1 : Rp X.K G d v) (r2 : Rp X.K G e w) (q1 : RelV v u) (q2 : RelV w u') (hu : A.units + (n + 1) < cLine) : RcAt A s u u' (eqD d e) := by
  have hu0 : A.units < cLine := by omega
  have ih := eqAt_D (X := X) I fz nz n
  have lstf : ∀ {ds : List D} {e : D}, Rp X.K G (.lst ds) v → fl e = true → Rp X.K G e w → RcAt A s u u' false := fun {ds e} r1 f r2 => by
    obtain ⟨a, xs, rfl, a1, a2⟩ := r1
    cases q1
    obtain ⟨its, t1, t2, _⟩ := I.list (.inl (fz.rd nz a1))
    exact (rc_list t2.isList hu0 q2 (fl_v f r2)).1
  have tupf : ∀ {ds : List D} {e : D}, Rp X.K G (.tup ds) v → fl e = true → Rp X.K G e w → RcAt A s u u' false := fun {ds e} r1 f r2 => by
    obtain ⟨a, xs, rfl, a1, a2⟩ := r1
    cases q1
    obtain ⟨its, t1, t2, _⟩ := I.tuple (sqT_mono fz nz a1)
    exact (rc_tuple t2 hu0 q2 (fl_v f r2)).1
  have flst : ∀ {ds : List D} {e : D}, Rp X.K G e v → fl e = true → Rp X.K G (.lst ds) w → RcAt A s u u' false := fun {ds e} r1 f r2 => by
    obtain ⟨a, xs, rfl, a1, a2⟩ := r2
    cases q2
    obtain ⟨its, t1, t2, _⟩ := I.list (.inl (fz.rd nz a1))
    exact (rc_list t2.isList hu0 q1 (fl_v f r1)).2
  have ftup : ∀ {ds : List D} {e : D}, Rp X.K G e v → fl e = true → Rp X.K G (.tup ds) w → RcAt A s u u' false := fun {ds e} r1 f r2 => by
    obtain ⟨a, xs, rfl, a1, a2⟩ := r2
    cases q2
    obtain ⟨its, t1, t2, _⟩ := I.tuple (sqT_mono fz nz a1)
    exact (rc_tuple t2 hu0 q1 (fl_v f r1)).2
  have flat : ∀ {d e : D}, fl d = true → fl e = true → Rp X.K G d v → Rp X.K G e w → RcAt A s u u' (eqD d e) := fun {d e} f1 f2 r1 r2 => by
    have z := rc_flat (A := A) (s := s) q1 q2 (fl_v f1 r1) (fl_v f2 r2)
    rw [fl_eq f1 f2 r1 r2] at z
    exact z
  cases d <;> first | (exact absurd h1 Bool.false_ne_true) | skip
  all_goals cases e <;> first | (exact absurd h2 Bool.false_ne_true) | skip
  case lst.lst ds es =>
    obtain ⟨a, xs, rfl, a1, a2⟩ := r1
    obtain ⟨b, ys, rfl, b1, b2⟩ := r2
    cases q1
    cases q2
    obtain ⟨its, t1, t2, _⟩ := I.list (.inl (fz.rd nz a1))
    obtain ⟨its2, t3, t4, _⟩ := I.list (.inl (fz.rd nz b1))
    have l1 : its.toArray.size = ds.length := by rw [List.size_toArray, ← t1.length, rpl_len a2]
    have l2 : its2.toArray.size = es.length := by rw [List.size_toArray, ← t3.length, rpl_len b2]
    show RcAt A s _ _ (eqL ds es)
    by_cases hl : ds.length = es.length
    · rw [eqL_all ds es hl, ← l1]
      exact RcAt.lists t2.isList t4.isList (by omega) hu0 (items_eq ih h1 h2 a2 b2 t1 t3 hu)
    · rw [eqL_ne hl]
      exact RcAt.lists_lengths t2.isList t4.isList (by simp only [bne_iff_ne]; omega) hu0
  case tup.tup ds es =>
    obtain ⟨a, xs, rfl, a1, a2⟩ := r1
    obtain ⟨b, ys, rfl, b1, b2⟩ := r2
    cases q1
    cases q2
    obtain ⟨its, t1, t2, _⟩ := I.tuple (sqT_mono fz nz a1)
    obtain ⟨its2, t3, t4, _⟩ := I.tuple (sqT_mono fz nz b1)
    have l1 : its.toArray.size = ds.length := by rw [List.size_toArray, ← t1.length, rpl_len a2]
    have l2 : its2.toArray.size = es.length := by rw [List.size_toArray, ← t3.length, rpl_len b2]
    have main := RcAt.tuples t2 t4 hu0 (items_eq ih h1 h2 a2 b2 t1 t3 hu)
    have key : ((List.range (min its.toArray.size its2.toArray.size)).all (fun j => eqD (ds.getD j .non) (es.getD j .non)) && its.toArray.size == its2.toArray.size) = eqL ds es := by
      by_cases hl : ds.length = es.length
      · rw [eqL_all ds es hl, l1, l2, hl]
        simp
      · rw [eqL_ne hl, l1, l2]
        simp [hl]
    rw [key] at main
    exact main
  case lst.tup ds es =>
    obtain ⟨a, xs, rfl, a1, a2⟩ := r1
    obtain ⟨b, ys, rfl, b1, b2⟩ := r2
    cases q1
    cases q2
    obtain ⟨its, t1, t2, _⟩ := I.list (.inl (fz.rd nz a1))
    obtain ⟨its2, t3, t4, _⟩ := I.tuple (sqT_mono fz nz b1)
    exact RcAt.list_tuple t2.isList t4 hu0
  case tup.lst ds es =>
    obtain ⟨a, xs, rfl, a1, a2⟩ := r1
    obtain ⟨b, ys, rfl, b1, b2⟩ := r2
    cases q1
    cases q2
    obtain ⟨its, t1, t2, _⟩ := I.tuple (sqT_mono fz nz a1)
    obtain ⟨its2, t3, t4, _⟩ := I.list (.inl (fz.rd nz b1))
    exact RcAt.tuple_list t2 t4.isList hu0
  case lst.non => exact lstf r1 rfl r2
  case tup.non => exact tupf r1 rfl r2
  case non.lst => exact flst r1 rfl r2
  case non.tup => exact ftup r1 rfl r2
  case lst.bl => exact lstf r1 rfl r2
  case tup.bl => exact tupf r1 rfl r2
  case bl.lst => exact flst r1 rfl r2
  case bl.tup => exact ftup r1 rfl r2
  case lst.int => exact lstf r1 rfl r2
  case tup.int => exact tupf r1 rfl r2
  case int.lst => exact flst r1 rfl r2
  case int.tup => exact ftup r1 rfl r2
  case lst.str => exact lstf r1 rfl r2
  case tup.str => exact tupf r1 rfl r2
  case str.lst => exact flst r1 rfl r2
  case str.tup => exact ftup r1 rfl r2
  all_goals exact flat rfl rfl r1 r2
theorem rn_flat {A : Around} : ∀ {v w : V} {u u' : Value}, RelV v u → RelV w u' → flatV v = true → flatV w = true → RcNeAt A s u u' (!eqV v w)
  | .non, .non, u, u', r1, r2, _, _ => by
    cases r1
    cases r2
    exact RcNeAt.none_none
  | .non, .bl b2, u, u', r1, r2, _, _ => by
    cases r1
    cases r2
    exact RcNeAt.none_bool b2
  | .non, .int i2, u, u', r1, r2, _, _ => by
    cases r1
    obtain ⟨t2, rfl⟩ := r2
    exact RcNeAt.none_int i2 t2
  | .non, .str z2, u, u', r1, r2, _, _ => by
    cases r1
    obtain ⟨t2, rfl⟩ := r2
    exact RcNeAt.none_str z2 t2
  | .bl b1, .non, u, u', r1, r2, _, _ => by
    cases r1
    cases r2
    exact RcNeAt.bool_none b1
  | .bl b1, .bl b2, u, u', r1, r2, _, _ => by
    cases r1
    cases r2
    exact RcNeAt.bool_bool b1 b2
  | .bl b1, .int i2, u, u', r1, r2, _, _ => by
    cases r1
    obtain ⟨t2, rfl⟩ := r2
    exact RcNeAt.bool_int b1 i2 t2
  | .bl b1, .str z2, u, u', r1, r2, _, _ => by
    cases r1
    obtain ⟨t2, rfl⟩ := r2
    exact RcNeAt.bool_str b1 z2 t2
  | .int i1, .non, u, u', r1, r2, _, _ => by
    obtain ⟨t1, rfl⟩ := r1
    cases r2
    exact RcNeAt.int_none i1 t1
  | .int i1, .bl b2, u, u', r1, r2, _, _ => by
    obtain ⟨t1, rfl⟩ := r1
    cases r2
    exact RcNeAt.int_bool i1 t1 b2
  | .int i1, .int i2, u, u', r1, r2, _, _ => by
    obtain ⟨t1, rfl⟩ := r1
    obtain ⟨t2, rfl⟩ := r2
    exact RcNeAt.int_int i1 t1 i2 t2
  | .int i1, .str z2, u, u', r1, r2, _, _ => by
    obtain ⟨t1, rfl⟩ := r1
    obtain ⟨t2, rfl⟩ := r2
    exact RcNeAt.int_str i1 t1 z2 t2
  | .str z1, .non, u, u', r1, r2, _, _ => by
    obtain ⟨t1, rfl⟩ := r1
    cases r2
    exact RcNeAt.str_none z1 t1
  | .str z1, .bl b2, u, u', r1, r2, _, _ => by
    obtain ⟨t1, rfl⟩ := r1
    cases r2
    exact RcNeAt.str_bool z1 t1 b2
  | .str z1, .int i2, u, u', r1, r2, _, _ => by
    obtain ⟨t1, rfl⟩ := r1
    obtain ⟨t2, rfl⟩ := r2
    exact RcNeAt.str_int z1 t1 i2 t2
  | .str z1, .str z2, u, u', r1, r2, _, _ => by
    obtain ⟨t1, rfl⟩ := r1
    obtain ⟨t2, rfl⟩ := r2
    exact RcNeAt.str_str z1 t1 z2 t2
  | .byt _, _, _, _, _, _, f, _ => absurd f Bool.false_ne_true
  | .flt _, _, _, _, _, _, f, _ => absurd f Bool.false_ne_true
  | .ref _, _, _, _, _, _, f, _ => absurd f Bool.false_ne_true
  | .ty _, _, _, _, _, _, f, _ => absurd f Bool.false_ne_true
  | .non, .byt _, _, _, _, _, _, f => absurd f Bool.false_ne_true
  | .bl _, .byt _, _, _, _, _, _, f => absurd f Bool.false_ne_true
  | .int _, .byt _, _, _, _, _, _, f => absurd f Bool.false_ne_true
  | .str _, .byt _, _, _, _, _, _, f => absurd f Bool.false_ne_true
  | .non, .flt _, _, _, _, _, _, f => absurd f Bool.false_ne_true
  | .bl _, .flt _, _, _, _, _, _, f => absurd f Bool.false_ne_true
  | .int _, .flt _, _, _, _, _, _, f => absurd f Bool.false_ne_true
  | .str _, .flt _, _, _, _, _, _, f => absurd f Bool.false_ne_true
  | .non, .ref _, _, _, _, _, _, f => absurd f Bool.false_ne_true
  | .bl _, .ref _, _, _, _, _, _, f => absurd f Bool.false_ne_true
  | .int _, .ref _, _, _, _, _, _, f => absurd f Bool.false_ne_true
  | .str _, .ref _, _, _, _, _, _, f => absurd f Bool.false_ne_true
  | .non, .ty _, _, _, _, _, _, f => absurd f Bool.false_ne_true
  | .bl _, .ty _, _, _, _, _, _, f => absurd f Bool.false_ne_true
  | .int _, .ty _, _, _, _, _, _, f => absurd f Bool.false_ne_true
  | .str _, .ty _, _, _, _, _, _, f => absurd f Bool.false_ne_true
theorem rn_list {A : Around} {a : Addr} {its : Array Value} (h : s.heap.IsList a its) (hu : A.units < cLine) : ∀ {w : V} {u : Value}, RelV w u → flatV w = true → RcNeAt A s (.ref a) u true ∧ RcNeAt A s u (.ref a) true
  | .non, u, r, _ => by
    cases r
    exact ⟨RcNeAt.list_none h hu, RcNeAt.none_list h hu⟩
  | .bl b2, u, r, _ => by
    cases r
    exact ⟨RcNeAt.list_bool b2 h hu, RcNeAt.bool_list b2 h hu⟩
  | .int i2, u, r, _ => by
    obtain ⟨t2, rfl⟩ := r
    exact ⟨RcNeAt.list_int i2 t2 h hu, RcNeAt.int_list i2 t2 h hu⟩
  | .str z2, u, r, _ => by
    obtain ⟨t2, rfl⟩ := r
    exact ⟨RcNeAt.list_str z2 t2 h hu, RcNeAt.str_list z2 t2 h hu⟩
  | .byt _, _, _, f => absurd f Bool.false_ne_true
  | .flt _, _, _, f => absurd f Bool.false_ne_true
  | .ref _, _, _, f => absurd f Bool.false_ne_true
  | .ty _, _, _, f => absurd f Bool.false_ne_true
theorem rn_tuple {A : Around} {a : Addr} {its : Array Value} (h : s.heap.IsTuple a its) (hu : A.units < cLine) : ∀ {w : V} {u : Value}, RelV w u → flatV w = true → RcNeAt A s (.ref a) u true ∧ RcNeAt A s u (.ref a) true
  | .non, u, r, _ => by
    cases r
    exact ⟨RcNeAt.tuple_none h hu, RcNeAt.none_tuple h hu⟩
  | .bl b2, u, r, _ => by
    cases r
    exact ⟨RcNeAt.tuple_bool b2 h hu, RcNeAt.bool_tuple b2 h hu⟩
  | .int i2, u, r, _ => by
    obtain ⟨t2, rfl⟩ := r
    exact ⟨RcNeAt.tuple_int i2 t2 h hu, RcNeAt.int_tuple i2 t2 h hu⟩
  | .str z2, u, r, _ => by
    obtain ⟨t2, rfl⟩ := r
    exact ⟨RcNeAt.tuple_str z2 t2 h hu, RcNeAt.str_tuple z2 t2 h hu⟩
  | .byt _, _, _, f => absurd f Bool.false_ne_true
  | .flt _, _, _, f => absurd f Bool.false_ne_true
  | .ref _, _, _, f => absurd f Bool.false_ne_true
  | .ty _, _, _, f => absurd f Bool.false_ne_true
theorem rn_D (I : Inv X pins sg H s) (fz : Exz G H) (nz : Nz G) (n : Nat) (d e : D) (A : Around) (v w : V) (u u' : Value) (h1 : pl (n + 1) d = true) (h2 : pl (n + 1) e = true) (r1 : Rp X.K G d v) (r2 : Rp X.K G e w) (q1 : RelV v u) (q2 : RelV w u') (hu : A.units + (n + 1) < cLine) : RcNeAt A s u u' (!eqD d e) := by
  have hu0 : A.units < cLine := by omega
  have ih := eqAt_D (X := X) I fz nz n
  have lstf : ∀ {ds : List D} {e : D}, Rp X.K G (.lst ds) v → fl e = true → Rp X.K G e w → RcNeAt A s u u' true := fun {ds e} r1 f r2 => by
    obtain ⟨a, xs, rfl, a1, a2⟩ := r1
    cases q1
    obtain ⟨its, t1, t2, _⟩ := I.list (.inl (fz.rd nz a1))
    exact (rn_list t2.isList hu0 q2 (fl_v f r2)).1
  have tupf : ∀ {ds : List D} {e : D}, Rp X.K G (.tup ds) v → fl e = true → Rp X.K G e w → RcNeAt A s u u' true := fun {ds e} r1 f r2 => by
    obtain ⟨a, xs, rfl, a1, a2⟩ := r1
    cases q1
    obtain ⟨its, t1, t2, _⟩ := I.tuple (sqT_mono fz nz a1)
    exact (rn_tuple t2 hu0 q2 (fl_v f r2)).1
  have flst : ∀ {ds : List D} {e : D}, Rp X.K G e v → fl e = true → Rp X.K G (.lst ds) w → RcNeAt A s u u' true := fun {ds e} r1 f r2 => by
    obtain ⟨a, xs, rfl, a1, a2⟩ := r2
    cases q2
    obtain ⟨its, t1, t2, _⟩ := I.list (.inl (fz.rd nz a1))
    exact (rn_list t2.isList hu0 q1 (fl_v f r1)).2
  have ftup : ∀ {ds : List D} {e : D}, Rp X.K G e v → fl e = true → Rp X.K G (.tup ds) w → RcNeAt A s u u' true := fun {ds e} r1 f r2 => by
    obtain ⟨a, xs, rfl, a1, a2⟩ := r2
    cases q2
    obtain ⟨its, t1, t2, _⟩ := I.tuple (sqT_mono fz nz a1)
    exact (rn_tuple t2 hu0 q1 (fl_v f r1)).2
  have flat : ∀ {d e : D}, fl d = true → fl e = true → Rp X.K G d v → Rp X.K G e w → RcNeAt A s u u' (!eqD d e) := fun {d e} f1 f2 r1 r2 => by
    have z := rn_flat (A := A) (s := s) q1 q2 (fl_v f1 r1) (fl_v f2 r2)
    rw [fl_eq f1 f2 r1 r2] at z
    exact z
  cases d <;> first | (exact absurd h1 Bool.false_ne_true) | skip
  all_goals cases e <;> first | (exact absurd h2 Bool.false_ne_true) | skip
  case lst.lst ds es =>
    obtain ⟨a, xs, rfl, a1, a2⟩ := r1
    obtain ⟨b, ys, rfl, b1, b2⟩ := r2
    cases q1
    cases q2
    obtain ⟨its, t1, t2, _⟩ := I.list (.inl (fz.rd nz a1))
    obtain ⟨its2, t3, t4, _⟩ := I.list (.inl (fz.rd nz b1))
    have l1 : its.toArray.size = ds.length := by rw [List.size_toArray, ← t1.length, rpl_len a2]
    have l2 : its2.toArray.size = es.length := by rw [List.size_toArray, ← t3.length, rpl_len b2]
    show RcNeAt A s _ _ (!eqL ds es)
    by_cases hl : ds.length = es.length
    · rw [eqL_all ds es hl, ← l1]
      exact RcNeAt.lists t2.isList t4.isList (by omega) hu0 (items_eq ih h1 h2 a2 b2 t1 t3 hu)
    · rw [eqL_ne hl]
      exact RcNeAt.lists_lengths t2.isList t4.isList (by simp only [bne_iff_ne]; omega) hu0
  case tup.tup ds es =>
    obtain ⟨a, xs, rfl, a1, a2⟩ := r1
    obtain ⟨b, ys, rfl, b1, b2⟩ := r2
    cases q1
    cases q2
    obtain ⟨its, t1, t2, _⟩ := I.tuple (sqT_mono fz nz a1)
    obtain ⟨its2, t3, t4, _⟩ := I.tuple (sqT_mono fz nz b1)
    have l1 : its.toArray.size = ds.length := by rw [List.size_toArray, ← t1.length, rpl_len a2]
    have l2 : its2.toArray.size = es.length := by rw [List.size_toArray, ← t3.length, rpl_len b2]
    have main := RcNeAt.tuples t2 t4 hu0 (items_eq ih h1 h2 a2 b2 t1 t3 hu)
    have key : ((List.range (min its.toArray.size its2.toArray.size)).all (fun j => eqD (ds.getD j .non) (es.getD j .non)) && its.toArray.size == its2.toArray.size) = eqL ds es := by
      by_cases hl : ds.length = es.length
      · rw [eqL_all ds es hl, l1, l2, hl]
        simp
      · rw [eqL_ne hl, l1, l2]
        simp [hl]
    rw [key] at main
    exact main
  case lst.tup ds es =>
    obtain ⟨a, xs, rfl, a1, a2⟩ := r1
    obtain ⟨b, ys, rfl, b1, b2⟩ := r2
    cases q1
    cases q2
    obtain ⟨its, t1, t2, _⟩ := I.list (.inl (fz.rd nz a1))
    obtain ⟨its2, t3, t4, _⟩ := I.tuple (sqT_mono fz nz b1)
    exact RcNeAt.list_tuple t2.isList t4 hu0
  case tup.lst ds es =>
    obtain ⟨a, xs, rfl, a1, a2⟩ := r1
    obtain ⟨b, ys, rfl, b1, b2⟩ := r2
    cases q1
    cases q2
    obtain ⟨its, t1, t2, _⟩ := I.tuple (sqT_mono fz nz a1)
    obtain ⟨its2, t3, t4, _⟩ := I.list (.inl (fz.rd nz b1))
    exact RcNeAt.tuple_list t2 t4.isList hu0
  case lst.non => exact lstf r1 rfl r2
  case tup.non => exact tupf r1 rfl r2
  case non.lst => exact flst r1 rfl r2
  case non.tup => exact ftup r1 rfl r2
  case lst.bl => exact lstf r1 rfl r2
  case tup.bl => exact tupf r1 rfl r2
  case bl.lst => exact flst r1 rfl r2
  case bl.tup => exact ftup r1 rfl r2
  case lst.int => exact lstf r1 rfl r2
  case tup.int => exact tupf r1 rfl r2
  case int.lst => exact flst r1 rfl r2
  case int.tup => exact ftup r1 rfl r2
  case lst.str => exact lstf r1 rfl r2
  case tup.str => exact tupf r1 rfl r2
  case str.lst => exact flst r1 rfl r2
  case str.tup => exact ftup r1 rfl r2
  all_goals exact flat rfl rfl r1 r2
/-- == and != of plain data -/
def rEqP (K : PySem.W.Frag) (neg : Bool) : R2 := fun x y H Q => ∃ (n : Nat) (G : Hp) (d e : D), Exz G H ∧ Nz G ∧ n ≤ 60 ∧ pl (n + 1) d = true ∧ pl (n + 1) e = true ∧ Rp K G d x ∧ Rp K G e y ∧ Q (.bl (if neg then !eqD d e else eqD d e)) H
theorem op_eqP (hu : X.A.units + 64 < cLine) : OpR X (compareOp .Eq) (rEqP X.K false) := by
  intro pins s sg H x y v u Q I rx ry h
  obtain ⟨n, G, d, e, fz, nz, hn, p1, p2, r1, r2, q⟩ := h
  exact rc_D I fz nz n d e X.A x y v u p1 p2 r1 r2 rx ry (by omega) X.prog X.w X.xe _ ⟨.bl _, H, I, rfl, q⟩
theorem op_neP (hu : X.A.units + 64 < cLine) : OpR X (compareOp .NotEq) (rEqP X.K true) := by
  intro pins s sg H x y v u Q I rx ry h
  obtain ⟨n, G, d, e, fz, nz, hn, p1, p2, r1, r2, q⟩ := h
  exact rn_D I fz nz n d e X.A x y v u p1 p2 r1 r2 rx ry (by omega) X.prog X.w X.xe _ ⟨.bl _, H, I, rfl, q⟩
end
/-! ### by data -/
/-- w stands for the plain data d -/
inductive Pk (ka : Cells) : W → D → Prop where
  | v {d} : Pk ka (.val d) d
  | w {d} : Pk ka (.vw d) d
  | c {a ds} (j : Nat) (h : ka[j]? = some (a, .lst ds)) : Pk ka (.val (.adr a)) (.lst ds)
section
variable {K : PySem.W.Frag} {B F F0 : Hp} {ro : Ro} {ka : Cells} {ta : List (V × W)} {sg : L2.St} {H : Hp} {x y : W}
/-- what may be read with the cells' lists beside -/
def gH (H : Hp) : Hp := fun a => match H a with
  | some (.frz _ u) => if lk u then some u else none
  | z => z
theorem gH_nz : Nz (gH H) := fun a u h => by
  unfold gH at h
  split at h
  · split at h
    · rename_i hx
      cases h
      cases u <;> first | rfl | cases hx
    · cases h
  · rename_i z q
    cases u with
    | frz ob z => exact absurd h (q ob z)
    | _ => rfl
theorem gH_exz : Exz (gH H) H := fun a u h => by
  unfold gH at h
  split at h
  · rename_i ob x q
    split at h
    · rename_i hx
      cases h
      exact .inr ⟨hx, ob, q⟩
    · cases h
  · exact .inl h
theorem exz_gH {G : Hp} (e : Exz G H) (n : Nz G) : Exz G (gH H) := fun a u h => by
  refine .inl ?_
  have hu := n a u h
  unfold gH
  rcases e a u h with q | ⟨k, o, q⟩
  · rw [q]
    cases u with
    | frz o z => cases hu
    | _ => rfl
  · rw [q]
    show (if lk u then some u else none) = some u
    rw [k]
    rfl
theorem Pk.get {d : D} {v : V} (l : Pk ka x d) (e : EnF K B F ro ka ta sg H) (h : WOk K B F v x) : Rp K (gH H) d v := by
  cases l with
  | v => exact Rp.mono (exz_gH e.fz e.nz) e.nz d v h
  | w => exact Rp.mono (exz_gH (uni_exz e.fz e.fr) (uni_nz e.nz)) (uni_nz e.nz) d v h
  | @c a ds j hj =>
    obtain ⟨_, _, xs, h1, h2⟩ := e.ce _ (List.mem_of_getElem? hj)
    have hv : v = .ref a := h
    refine ⟨a, xs, hv, .inl ?_, RpL.mono (exz_gH e.fz e.nz) e.nz _ _ h2⟩
    unfold gH
    rw [h1]
theorem rv_eqP {d e : D} (l1 : Pk ka x d) (l2 : Pk ka y e) (p1 : pl 61 d = true) (p2 : pl 61 e = true) : RvD K (rEqP K false) ka x y (.val (.bl (eqD d e))) := fun B F0 ro ta sg H u v Q en h1 h2 q => by
  obtain ⟨F, g, ef⟩ := id en
  exact ⟨60, gH H, d, e, gH_exz, gH_nz, Nat.le_refl _, p1, p2, l1.get ef (ef.tm _ h1), l2.get ef (ef.tm _ h2), q _ _ (en.push_imm fun _ => rfl)⟩
theorem rv_neP {d e : D} (l1 : Pk ka x d) (l2 : Pk ka y e) (p1 : pl 61 d = true) (p2 : pl 61 e = true) : RvD K (rEqP K true) ka x y (.val (.bl (!eqD d e))) := fun B F0 ro ta sg H u v Q en h1 h2 q => by
  obtain ⟨F, g, ef⟩ := id en
  exact ⟨60, gH H, d, e, gH_exz, gH_nz, Nat.le_refl _, p1, p2, l1.get ef (ef.tm _ h1), l2.get ef (ef.tm _ h2), q _ _ (en.push_imm fun _ => rfl)⟩
end
end DL

/-! DO: operators that a class of the text defines (own work). -/
namespace DL
open PySem L2 PySem.W

section
variable {X : Cx} {CX : CXT} {k : Nat} {C f : Addr} {fd : FuncData} {ps : List Str} {sp : Sp} {E : XK}
/-- the type of a value, as the library looks for it -/
def TyL (X : Cx) (x : V) (H : Hp) (T : String) : Prop := ∀ pins s sg u, Inv X pins sg H s → RelV x u → Looks (model X.prog X.w) s.heap (typeOf u) (.type T)
/-! ### == and != by the class's own __eq__ -/
/-- a type against which x's class goes first: a built-in one, or the class itself -/
inductive TyE (X : Cx) (C : Addr) (H : Hp) : V → Prop where
  | ty {y : V} {T : String} (h : TyL X y H T) (s : subIn X.K (.type T) (.ref C) = some false) : TyE X C H y
  | own {a dx : Addr} {fs : List (Str × V)} (h : H a = some (.ins C dx fs)) : TyE X C H (.ref a)
end
end DL

/-! DF: defs by contract, instances, exceptions by data (own work). -/
namespace DL
open PySem L2 PySem.W

/-! ### defs -/
/-- the def at f keeps the contract C -/
def Fn (P : Program) (w : World) (K : PySem.W.Frag) (mg : Str → Option Value) (base : Heap) (k : Nat) (f : Addr) (ps : List Str) (C : Ct) : Prop := ∃ fd, FnOk P w K mg base (L2.CX P w) k f fd ps (spC K C) ∧ Binds K fd ps []
section
variable {P : Program} {w : World} {K : PySem.W.Frag} {mg : Str → Option Value} {base : Heap} {f : Addr} {fd : FuncData} {x qual : Str} {params : Arguments} {body : List Stmt} {scope : Scope} {ps N : List Str} {k j : Nat} {C : Ct}
theorem Fn.up (F : Fn P w K mg base j f ps C) (h : j ≤ k) : Fn P w K mg base k f ps C := let ⟨fd, a, b⟩ := F; ⟨fd, a.mono h, b⟩
theorem fn_okG {dvs : List V} (F : FunD K x qual params body scope dvs [] f fd) (S : FnScope N ps scope)
    (hl : ∀ ws ka out, C ws ka out → ws.length = ps.length)
    (h : ∀ (cdv : Value) (A : Around) (outer : List Env) (s : Shared) (H : Hp) (E : XK), Room k (A.deeper (PyProof.Rows.envOfC qual scope s.heap.objs.size f cdv)) →
      ∃ t, PSs (cxOf (L2.CX P w) P w K mg base N qual scope f cdv A outer s H E) body t ∧
        ∀ ws ka out B F0 Q, C ws ka out → RtOk K B F0 out Q → RxOk K B F0 out E → Gp K B F0 [] (t { nx := fun _ H' => Q .non H', rt := Q }) (ws.map some ++ List.replicate (N.length - ps.length) none) ka) : FnOk P w K mg base (L2.CX P w) (k + 1) f fd ps (spC K C) := by
  refine (F.ok S (fun vs H Q E h => ?_) (fun cdv A outer s H vs Q E hr hs => ?_))
  · obtain ⟨B, F', ws, ka, out, hC, l, _⟩ := h
    rw [l]
    exact hl _ _ _ hC
  · obtain ⟨t, d, p⟩ := h cdv A outer s H E hr
    obtain ⟨B, F0, ws, ka, out, hC, l, ⟨F1, g1, en⟩, hR, hX⟩ := hs
    refine ⟨t, d, p ws ka out B F0 Q hC hR hX _ H ⟨F1, g1, ?_⟩⟩
    have hw := hl _ _ _ hC
    refine (en.frame (ro' := ws.map some ++ List.replicate (N.length - ps.length) none) (sg' := L2.start N vs) ?_ fun i w2 e => ?_).held fun p hp => by cases hp
    · unfold L2.start
      rw [List.length_append, List.length_append, List.length_map, List.length_map, List.length_replicate, List.length_replicate, l, hw]
    · unfold L2.start
      by_cases hi : i < ws.length
      · rw [List.getElem?_append_left (by rw [List.length_map]; exact hi), List.getElem?_map, List.getElem?_eq_getElem hi] at e
        have e' : ws[i] = w2 := by simpa using e
        rw [List.getElem?_append_left (by rw [List.length_map, l]; exact hi), List.getElem?_map, List.getElem?_eq_getElem (by rw [l]; exact hi)]
        refine ⟨vs[i], rfl, ?_⟩
        have := en.tm (vs[i]'(by rw [l]; exact hi), ws[i]) (by
          have hz : (vs.zip ws)[i]? = some (vs[i]'(by rw [l]; exact hi), ws[i]) := by
            rw [List.getElem?_zip_eq_some]
            exact ⟨List.getElem?_eq_getElem _, List.getElem?_eq_getElem _⟩
          exact List.mem_of_getElem? hz)
        rw [e'] at this
        exact this
      · rw [List.getElem?_append_right (by rw [List.length_map]; omega), List.getElem?_replicate] at e
        split at e <;> cases e
theorem fn_okF (F : FunD K x qual params body scope [] [] f fd) (S : FnScope N ps scope)
    (hb : ∀ (kV doc pm : Value) (an : Option Addr) (cdv ct : Value) (us : List Value), us.length = ps.length → bindArgs (PySem.W.fnOf x qual params body scope .none kV doc pm an cdv ct) ⟨us, []⟩ = pure (ps.zip us))
    (hl : ∀ ws ka out, C ws ka out → ws.length = ps.length)
    (h : ∀ (cdv : Value) (A : Around) (outer : List Env) (s : Shared) (H : Hp) (E : XK), Room k (A.deeper (PyProof.Rows.envOfC qual scope s.heap.objs.size f cdv)) →
      ∃ t, PSs (cxOf (L2.CX P w) P w K mg base N qual scope f cdv A outer s H E) body t ∧
        ∀ ws ka out B F0 Q, C ws ka out → RtOk K B F0 out Q → RxOk K B F0 out E → Gp K B F0 [] (t { nx := fun _ H' => Q .non H', rt := Q }) (ws.map some ++ List.replicate (N.length - ps.length) none) ka) : FnOk P w K mg base (L2.CX P w) (k + 1) f fd ps (spC K C) := fn_okG F S hl h
theorem fn_ok (F : FunD K x qual params body scope [] [] f fd) (S : FnScope N ps scope)
    (hb : ∀ (kV doc pm : Value) (an : Option Addr) (cdv ct : Value) (us : List Value), us.length = ps.length → bindArgs (PySem.W.fnOf x qual params body scope .none kV doc pm an cdv ct) ⟨us, []⟩ = pure (ps.zip us))
    (hl : ∀ ws ka out, C ws ka out → ws.length = ps.length)
    (h : ∀ (cdv : Value) (A : Around) (outer : List Env) (s : Shared) (H : Hp) (E : XK), Room k (A.deeper (PyProof.Rows.envOfC qual scope s.heap.objs.size f cdv)) →
      ∃ t, PSs (cxOf (L2.CX P w) P w K mg base N qual scope f cdv A outer s H E) body t ∧
        ∀ ws ka out B F0 Q, C ws ka out → RtOk K B F0 out Q → RxOk K B F0 out E → Gp K B F0 [] (t { nx := fun _ H' => Q .non H', rt := Q }) (ws.map some ++ List.replicate (N.length - ps.length) none) ka) : Fn P w K mg base (k + 1) f ps C := ⟨fd, fn_okF F S hb hl h, F.bindsN hb⟩
end
/-- the def behind a contract, and what is known of it -/
noncomputable def Fn.fd {P : Program} {w : World} {K : PySem.W.Frag} {mg : Str → Option Value} {base : Heap} {k : Nat} {f : Addr} {ps : List Str} {C : Ct} (F : Fn P w K mg base k f ps C) : FuncData := Classical.choose F
theorem Fn.ok {P : Program} {w : World} {K : PySem.W.Frag} {mg : Str → Option Value} {base : Heap} {k : Nat} {f : Addr} {ps : List Str} {C : Ct} (F : Fn P w K mg base k f ps C) : FnOk P w K mg base (L2.CX P w) k f F.fd ps (spC K C) := (Classical.choose_spec F).1
theorem Fn.bn {P : Program} {w : World} {K : PySem.W.Frag} {mg : Str → Option Value} {base : Heap} {k : Nat} {f : Addr} {ps : List Str} {C : Ct} (F : Fn P w K mg base k f ps C) : Binds K F.fd ps [] := (Classical.choose_spec F).2
section
variable {X : Cx}
theorem passes_no : Passes (L2.CX X.prog X.w) X (fun _ _ _ => False) := fun _ _ _ _ _ _ _ ⟨_, _, _, _, _, _, _, _, _, _, _, _, z⟩ => z.elim
end
end DL

/-! DG: instances by data (own work). -/
namespace DL
open PySem L2 PySem.W

section
variable {K : PySem.W.Frag} {B F F0 : Hp} {ro : Ro} {ka k1 k2 k3 kr : Cells} {ta : List (V × W)} {sg : L2.St} {H H' : Hp} {te tf tg : TE} {tr : TA} {tt : TT} {w x y z : W} {n : Nd} {C dx a : Addr} {fs : List (Str × D)} {b : Bool}

theorem rpf_lookup {F : Hp} : ∀ {fs : List (Str × D)} {xs : List (Str × V)} {f : Str} {d : D}, RpF K F fs xs → fs.lookup f = some d → ∃ v, xs.lookup f = some v ∧ Rp K F d v
  | [], _, _, _, _, e => by cases e
  | (g, d0) :: fs, xs, f, d, h, e => by
    obtain ⟨x, ys, rfl, h1, h2⟩ := h
    unfold List.lookup at e ⊢
    cases q : (f == g) with
    | true =>
      rw [q] at e
      cases e
      exact ⟨x, rfl, h1⟩
    | false =>
      rw [q] at e
      exact rpf_lookup h2 e
/-- w is an instance of the class at C with the fields fs; b: viewed -/
inductive Io (ka : Cells) : W → Addr → List (Str × D) → Bool → Prop where
  | v {D1 : Addr} {gs : List (Str × D)} : Io ka (.val (.ins D1 gs)) D1 gs false
  | w {D1 : Addr} {gs : List (Str × D)} : Io ka (.vw (.ins D1 gs)) D1 gs true
  | c {p D1 : Addr} {gs : List (Str × D)} (j : Nat) (h : ka[j]? = some (p, .ins D1 gs)) : Io ka (.val (.adr p)) D1 gs false
theorem rd_ins {H : Hp} {dx : Addr} {xs : List (Str × V)} (n : Nz F) (e : Exz F H) (h : Rd F a (.ins C dx xs)) : H a = some (.ins C dx xs) := by
  rcases h with h | ⟨o, h⟩
  · exact e.at h rfl
  · have := n a _ h
    cases this
/-- the built-in type of a value, by the abstract heap -/
inductive TyV (K : PySem.W.Frag) (H : Hp) : V → String → Prop where
  | non : TyV K H .non "NoneType"
  | bl {b : Bool} : TyV K H (.bl b) "bool"
  | int {b : Int} : TyV K H (.int b) "int"
  | str {b : Str} : TyV K H (.str b) "str"
  | lst {a : Addr} {xs : List V} (h : SqL K H a xs) : TyV K H (.ref a) "list"
  | tup {a : Addr} {xs : List V} (h : SqT K H a xs) : TyV K H (.ref a) "tuple"
inductive TyE2 (K : PySem.W.Frag) (C : Addr) (H : Hp) : V → Prop where
  | ty {y : V} {T : String} (h : TyV K H y T) (s : subIn K (.type T) (.ref C) = some false) : TyE2 K C H y
  | own {a dx : Addr} {gs : List (Str × V)} (h : H a = some (.ins C dx gs)) : TyE2 K C H (.ref a)
theorem Io.get {v : V} (l : Io ka w C fs b) (e : EnF K B F ro ka ta sg H) (h : WOk K B F v w) : ∃ a dx xs, v = .ref a ∧ H a = some (.ins C dx xs) ∧ RpF K (if b then uni B F else F) fs xs := by
  cases l with
  | v =>
    obtain ⟨a, dx, xs, rfl, h1, h2⟩ := h
    exact ⟨a, dx, xs, rfl, rd_ins e.nz e.fz h1, h2⟩
  | w =>
    obtain ⟨a, dx, xs, rfl, h1, h2⟩ := h
    exact ⟨a, dx, xs, rfl, rd_ins (uni_nz e.nz) (uni_exz e.fz e.fr) h1, h2⟩
  | @c a C fs j hj =>
    obtain ⟨_, _, dx, xs, h1, h2⟩ := e.ce _ (List.mem_of_getElem? hj)
    exact ⟨a, dx, xs, h, h1, h2⟩
theorem Io.en {v : V} (l : Io ka w C fs b) (e : En K B F0 ro ka ta sg H) (h : (v, w) ∈ ta) : ∃ a dx xs, v = .ref a ∧ H a = some (.ins C dx xs) := by
  obtain ⟨F, g, e⟩ := e
  obtain ⟨a, dx, xs, h1, h2, _⟩ := l.get e (e.tm _ h)
  exact ⟨a, dx, xs, h1, h2⟩
/-- own == own, own != own, or a built-in's value -/
inductive Eo (ka : Cells) : W → Addr → Prop where
  | io {u : W} {D1 : Addr} {gs : List (Str × D)} {b1 : Bool} (l : Io ka u D1 gs b1) : Eo ka u D1
  | non {D1 : Addr} : Eo ka (.val .non) D1
  | bl {b1 : Bool} {D1 : Addr} : Eo ka (.val (.bl b1)) D1
  | int {b1 : Int} {D1 : Addr} : Eo ka (.val (.int b1)) D1
  | str {b1 : Str} {D1 : Addr} : Eo ka (.val (.str b1)) D1
  | sq {u : W} {t b1 : Bool} {ds : List D} {D1 : Addr} (l : Lk ka u t ds b1) : Eo ka u D1
theorem Eo.at {u : V} (hT : EqT K C) (l : Eo ka y C) (e : En K B F0 ro ka ta sg H) (h : (u, y) ∈ ta) : TyE2 K C H u := by
  cases l with
  | io l =>
    obtain ⟨a, dx, xs, rfl, ha⟩ := l.en e h
    exact .own ha
  | non =>
    obtain rfl := e.tm_non h
    exact .ty .non (hT _ (by simp))
  | bl =>
    obtain rfl := e.tm_bl h
    exact .ty .bl (hT _ (by simp))
  | int =>
    obtain rfl := e.tm_int h
    exact .ty .int (hT _ (by simp))
  | str =>
    obtain rfl := e.tm_str h
    exact .ty .str (hT _ (by simp))
  | @sq x t ds b C l =>
    obtain ⟨F, g, e⟩ := e
    obtain ⟨a, xs, rfl, h1, _⟩ := l.get e (e.tm _ h)
    cases t with
    | false => exact .ty (.lst (.inl h1)) (hT _ (by simp))
    | true => exact .ty (.tup h1) (hT _ (by simp))
/-- own << other and the like: the other of a built-in type -/
structure TyWf (K : PySem.W.Frag) (C : Addr) (op : Operator) (ka : Cells) (y : W) : Prop where
  at_ : ∀ B F0 ro ta sg H u, En K B F0 ro ka ta sg H → (u, y) ∈ ta → ∃ T, TyV K H u T ∧ BoT K C op T
end
end DL

/-! DH: making objects, isinstance, conversions, exceptions by data (own work). -/
namespace DL
open PySem L2 PySem.W

section
variable {K : PySem.W.Frag} {B F F0 : Hp} {ro : Ro} {ka k1 k2 k3 kr : Cells} {ta : List (V × W)} {sg : L2.St} {H H' : Hp} {te tf tg : TE} {tr : TA} {tt : TT} {w x y z : W} {n : Nd} {C dx a : Addr} {fs : List (Str × D)} {b : Bool} {P : L2.St → Hp → Prop}

/-! ### an instance cell, frozen -/
theorem En.freeze_i (e : En K B F0 ro (ka ++ [(a, .ins C fs)]) ta sg H) : En K B F0 ro ka ((.ref a, .val (.ins C fs)) :: ta) sg H := by
  obtain ⟨F, g, e⟩ := e
  obtain ⟨fa, ba, dx, xs, ha, rl⟩ := e.ce (a, .ins C fs) (by simp)
  have gg : Gr B F (upd F a (.ins C dx xs)) := ⟨Sub.new fa, fun b h1 h2 => by
    have ne : b ≠ a := fun q => h2 (q ▸ ba)
    rw [upd_ne ne]
    exact h1⟩
  have nd2 := e.nd
  rw [List.map_append, List.nodup_append] at nd2
  refine ⟨upd F a (.ins C dx xs), g.trans gg, ⟨fun b u h => ?_, fun b u h => ?_, e.fr, nd2.1, fun q hq => ?_, e.ln, fun i w h => ?_, fun q hq => ?_⟩⟩
  · by_cases hb : b = a
    · subst hb; rw [upd_same] at h; cases h; rfl
    · rw [upd_ne hb] at h; exact e.nz b u h
  · by_cases hb : b = a
    · subst hb; rw [upd_same] at h; cases h; exact .inl ha
    · rw [upd_ne hb] at h; exact e.fz b u h
  · obtain ⟨h1, h2, h3⟩ := e.ce q (List.mem_append_left _ hq)
    have nq : q.1 ≠ a := fun z => nd2.2.2 q.1 (List.mem_map.mpr ⟨q, hq, rfl⟩) a (by simp) z
    exact ⟨by rw [upd_ne nq]; exact h1, h2, ndok_gr e.nz gg h3⟩
  · obtain ⟨v, h1, h2⟩ := e.sl i w h
    exact ⟨v, h1, wok_gr e.nz gg h2⟩
  · rcases List.mem_cons.mp hq with rfl | hq
    · exact ⟨a, dx, xs, rfl, .inl upd_same, RpF.mono gg.sub.exz e.nz _ _ rl⟩
    · exact wok_gr e.nz gg (e.tm q hq)
theorem EvN.ins {fs : List (Str × D)} (h : EvN K te ro ka (.ins C fs) k1) : EvD K te ro ka (.val (.ins C fs)) k1 := fun B F0 ta sg H Q e q => h B F0 ta sg H Q e fun a H1 e1 => q _ _ e1.freeze_i
/-- fewer cells -/
theorem En.less (e : En K B F0 ro ka ta sg H) (h : k1.Sublist ka) : En K B F0 ro k1 ta sg H := let ⟨F, g, q⟩ := e; ⟨F, g, q.cells h⟩
theorem EvD.less (h : EvD K te ro ka w k1) (s : k2.Sublist k1) : EvD K te ro ka w k2 := fun B F0 ta sg H Q e q => h B F0 ta sg H Q e fun v H1 e1 => q v H1 (e1.less s)
theorem Gp.less (h : Gp K B F0 ta P ro k1) (s : k1.Sublist ka) : Gp K B F0 ta P ro ka := fun sg H e => h sg H (e.less s)
/-! ### isinstance -/
/-- the type of what w stands for -/
inductive Tw (K : PySem.W.Frag) (ka : Cells) : W → Value → Prop where
  | non : Tw K ka (.val .non) (.type "NoneType")
  | bl {i : Bool} : Tw K ka (.val (.bl i)) (.type "bool")
  | int {i : Int} : Tw K ka (.val (.int i)) (.type "int")
  | str {i : Str} : Tw K ka (.val (.str i)) (.type "str")
  | lst {u : W} {ds : List D} {b1 : Bool} (l : Lk ka u false ds b1) : Tw K ka u (.type "list")
  | tup {u : W} {ds : List D} {b1 : Bool} (l : Lk ka u true ds b1) : Tw K ka u (.type "tuple")
  | io {u : W} {D1 : Addr} {gs : List (Str × D)} {b1 : Bool} (l : Io ka u D1 gs b1) (c : ClsI K D1) : Tw K ka u (.ref D1)
theorem Tw.at {t : Value} {v : V} (l : Tw K ka w t) (e : En K B F0 ro ka ta sg H) (h : (v, w) ∈ ta) : TyX K H v t := by
  cases l with
  | non => obtain rfl := e.tm_non h; exact .base .non
  | bl => obtain rfl := e.tm_bl h; exact .base (.bl _)
  | int => obtain rfl := e.tm_int h; exact .base (.int _)
  | str => obtain rfl := e.tm_str h; exact .base (.str _)
  | lst l =>
    obtain ⟨F, g, e⟩ := e
    obtain ⟨a, xs, rfl, h1, _⟩ := l.get e (e.tm _ h)
    rcases (show Rd H a (.lst xs) from h1) with h1 | ⟨o, h1⟩
    · exact .base (.lst h1)
    · exact .base (.frz h1)
  | tup l =>
    obtain ⟨F, g, e⟩ := e
    obtain ⟨a, xs, rfl, h1, _⟩ := l.get e (e.tm _ h)
    rcases (show SqT K H a xs from h1) with h1 | h1
    · rcases h1 with h1 | ⟨o, h1⟩
      · exact .base (.tup h1)
      · exact .fTuple h1
    · obtain ⟨o, its, n, q1, q2, _⟩ := h1
      exact .kTuple q1 q2
  | io l c =>
    obtain ⟨a, dx, xs, rfl, ha⟩ := l.en e h
    exact .base (.ins ha c.cl c.ha c.hn c.htk c.hm)
end
end DL

/-! DJ: raise, try, by data; conversions (own work). -/
namespace DL
open PySem L2 PySem.W

/-! ### own exception classes -/
theorem slots_six {sl : Array (Option Value)} (h : slotsOk sl = true) : ∃ a b c d e, sl = #[a, b, c, d, some (.builtin "ValueError.__new__"), e] := by
  obtain ⟨h1, h2⟩ := Bool.and_eq_true_iff.mp h
  have h1 := beq_iff_eq.mp h1
  have h2 := beq_iff_eq.mp h2
  obtain ⟨l⟩ := sl
  match l, h1, h2 with
  | [a, b, c, d, x, e], _, h2 =>
    have : x = some (.builtin "ValueError.__new__") := by simpa using h2
    exact ⟨a, b, c, d, e, by rw [this]⟩
theorem oexB_ok {K : PySem.W.Frag} {C : Addr} (h : oexB K C = true) : OexC K C := by
  have h := Bool.and_eq_true_iff.mp h
  have r1 := Bool.and_eq_true_iff.mp h.2
  have r2 := Bool.and_eq_true_iff.mp r1.2
  have r3 := Bool.and_eq_true_iff.mp r2.2
  refine ⟨?_, of_decide_eq_true r1.1, of_decide_eq_true r2.1, of_decide_eq_true r3.1, r3.2⟩
  obtain ⟨o, ho, h1⟩ : ∃ o, K.lookup C = some o ∧ errObj C o = true := by
    cases q : K.lookup C with
    | none => have := h.1; rw [q] at this; cases this
    | some o => have := h.1; rw [q] at this; exact ⟨o, rfl, this⟩
  have k1 := Bool.and_eq_true_iff.mp h1
  have k2 := Bool.and_eq_true_iff.mp k1.2
  have hc := beq_iff_eq.mp k1.1
  obtain ⟨s0, s1, s2, s3, s5, hs⟩ := slots_six k2.1
  obtain ⟨oc, od, dt, sl⟩ := o
  cases dt with
  | cls cd =>
    have l1 := Bool.and_eq_true_iff.mp (show (!cd.hasDel && (cd.hasDict && _)) = true from k2.2)
    have l2 := Bool.and_eq_true_iff.mp l1.2
    have hdel : cd.hasDel = false := by simpa using l1.1
    have hdict : cd.hasDict = true := l2.1
    cases hm : cd.mro with
    | nil => have := l2.2; rw [hm] at this; cases this
    | cons x r =>
      have l3 : (x == .ref C && PySem.HandSPX.refsVE r) = true := by have := l2.2; rw [hm] at this; exact this
      have l4 := Bool.and_eq_true_iff.mp l3
      have hx := beq_iff_eq.mp l4.1
      refine ⟨cd.name, cd.qualname, cd.ns, cd.bases, r, cd.slotNames, cd.subclasses, cd.abstract, cd.collection, od, s0, s1, s2, s3, s5, ?_, l4.2⟩
      rw [ho]
      have hc : oc = .type "type" := hc
      have hs : sl = _ := hs
      subst hc hs hx
      cases cd
      cases hm
      cases hdel
      cases hdict
      rfl
  | _ => cases k2.2
/-- what a raised own error with fields asks of the text -/
structure Xc (K : PySem.W.Frag) (C : Addr) : Prop where
  oex : OexC K C
  xf : XfC K C
theorem xcB_ok {K : PySem.W.Frag} {C : Addr} (h : xcB K C = true) : Xc K C := let ⟨a, b⟩ := Bool.and_eq_true_iff.mp h; ⟨oexB_ok a, xfB_ok b⟩
/-- __init__(self, x): self.f = x -/
def spI1 (K : PySem.W.Frag) (C : Addr) (f : Str) : Sp := fun vs H Q _ => ∃ a y, vs = [.ref a, y] ∧ OexC K C ∧ findIn K (.ref C) f = some none ∧ H a = some (exo a C none) ∧
  ∀ d, H d = none → d ≠ a → Q .non (upd (upd H d (exd d [(f, y)])) a (exo a C (some d)))
theorem init1_ok {P : Program} {w : World} {K : PySem.W.Frag} {mg : Str → Option Value} {base : Heap} {f C : Addr} {fd : FuncData} {nm qual x fld : Str} {params : Arguments} {body : List Stmt} {scope : Scope} {k : Nat} {CX : CXT}
    (F : FunD K nm qual params body scope [] [] f fd) (S : FnScope ["self", x] ["self", x] scope)
    (h : ∀ (cdv : Value) (A : Around) (outer : List Env) (s : Shared) (H : Hp) (E : XK), PSs (cxOf CX P w K mg base ["self", x] qual scope f cdv A outer s H E) body (tOst K fld (tVar 0) (tVar 1))) : FnOk P w K mg base CX (k + 1) f fd ["self", x] (spI1 K C fld) :=
  F.ok S (fun vs H Q E ⟨a, y, e, _⟩ => by rw [e]; rfl) fun cdv A outer s H vs Q E hr ⟨a, y, e, T, hno, ha, q⟩ => ⟨_, h cdv A outer s H E, by
    subst e
    exact ⟨y, rfl, .ref a, rfl, a, C, rfl, T, hno, .inl ⟨ha, q⟩⟩⟩
/-- an own error class made without arguments: a new object, no fields -/
theorem pmk_zero {X : Cx} {C : Addr} {mros : List Value} {base new ini : String} {x : Str} {p pos : Pos} (facts : PySem.ExcBaseFacts base new ini mros) (known : excIn X.K C mros new = true) (here : X.mg x = some (.ref C)) (kept : keepIn X.K (.ref C) = true) (up : Raises X (.ref C)) (glob : Gl X x)
    (plain : (x == ("__debug__" : Str)) = false := by decide) : PMk X (.Call (.Name x p) [] [] pos) (fun _ H Q => Q (.ref C) none H) := fun pins s sg H Q I want => by
  obtain ⟨mro, ns, cn, qn, bases, dct, slots, subs, abst, coll, dd, a0, a1, a2, a3, a5, mN, look, space, noInit, tail⟩ := exc_obj I.kIn known
  have made := PySem.wpAny_call_exc_subT (prog := X.prog) (w := X.w) (A := X.A) (Q := MkP X pins sg Q) (E := X.xe) (rest := []) facts tail look space noInit (fun h' e new => mk_of (I.tok _) new up want (I.hok.gone new.new)) (Nat.zero_le _)
  exact wpAny_Call_Name_kw (ld_glob (pos := p) (E := X.xe) I glob here (callWith_K0 (first := []) I.kIn kept made) plain)

section
variable {K : PySem.W.Frag} {B F F0 : Hp} {ro : Ro} {ka k1 k2 k3 kr : Cells} {ta : List (V × W)} {sg : L2.St} {H H' : Hp} {te tf tg : TE} {tr : TA} {tt : TT} {w x y z : W} {n : Nd} {C dx a : Addr} {fs : List (Str × D)} {b : Bool} {P : L2.St → Hp → Prop}
theorem mk1_of {fld : Str} {d : D} {Q : XK} (ha : EvA K tr ro ka [.val d] k1) (T : OexC K C) (hno : findIn K (.ref C) fld = some none) (e : En K B F0 ro ka ta sg H)
    (q : ∀ dx H', En K B F0 ro (k1 ++ [(dx, .xd [(fld, d)])]) ta sg H' → Q (.ref C) (some dx) H') : tMkO C (spI1 K C fld) [] tr sg H Q := ha B F0 ta sg H _ e fun vs H1 hl e1 => by
  match vs, hl with
  | [v], _ =>
    refine ⟨by show 1 ≤ 1000; omega, fun a hna => ⟨a, v, rfl, T, hno, upd_same, fun dd hd hne => ⟨rfl, dd, [(fld, v)], upd_same, ?_, ?_, ?_⟩⟩⟩
    · rw [upd_ne hne, upd_same]
    · rwa [upd_ne hne] at hd
    · have hd1 : H1 dd = none := by rwa [upd_ne hne] at hd
      have eH : upd (del (upd (upd (upd H1 a (exo a C none)) dd (exd dd [(fld, v)])) a (exo a C (some dd))) a) dd (.xd [(fld, v)]) = upd H1 dd (.xd [(fld, v)]) := by
        funext b
        by_cases h1 : b = dd
        · subst h1
          rw [upd_same, upd_same]
        · rw [upd_ne h1, upd_ne h1]
          by_cases h2 : b = a
          · subst h2
            rw [del_same, hna]
          · rw [del_ne h2, upd_ne h2, upd_ne h1, upd_ne h2]
      rw [eH]
      obtain ⟨F, g, e1⟩ := e1
      have hv : WOk K B F v (.val d) := e1.tm _ (List.mem_append_left _ List.mem_cons_self)
      exact q dd _ ⟨F, g, (e1.cell (o := .xd [(fld, v)]) hd1 (n := .xd [(fld, d)]) ⟨_, upd_same, v, [], rfl, hv, rfl⟩).held fun p hp => List.mem_append_right _ hp⟩
def rIntU : List V → Hp → VK → Prop := fun xs H Q => (∃ i, xs = [.int i] ∧ Q (.int i) H) ∨ ∃ k, xs = [.bl k] ∧ Q (.int (if k then 1 else 0)) H
def rAbsU : List V → Hp → VK → Prop := fun xs H Q => ∃ i, xs = [.int i] ∧ Q (.int (if i < 0 then -i else i)) H
theorem call_intU {X : Cx} : CallR X (.type "int") rIntU := call_int1
theorem call_absU {X : Cx} : CallR X (.builtin "abs") rAbsU := call_abs
theorem rpl_imm {F G : Hp} : ∀ {ds : List D} {xs : List V}, ds.all imm = true → RpL K F ds xs → RpL K G ds xs
  | [], _, _, h => h
  | d :: ds, xs, hi, h => by
    obtain ⟨x, ys, rfl, h1, h2⟩ := h
    rw [List.all_cons, Bool.and_eq_true] at hi
    exact ⟨x, ys, rfl, imm_any hi.1 h1, rpl_imm hi.2 h2⟩
/-- a sequence's items may be told as frozen -/
def SqF (b : Bool) (ds : List D) : Prop := b = false ∨ ds.all imm = true
theorem SqF.to {ds : List D} {xs : List V} (h : SqF b ds) (r : RpL K (if b then uni B F else F) ds xs) : RpL K F ds xs := by
  rcases h with h | h
  · subst h; exact r
  · exact rpl_imm h r
theorem rc_int {i : Int} : RcD K rIntU ka [.val (.int i)] (.val (.int i)) := fun B F0 ro ta sg H us Q e hl hm q => by
  obtain ⟨u, rfl, hu⟩ := zip_one hl hm
  obtain rfl := e.tm_int hu
  exact .inl ⟨i, rfl, q _ _ (e.push_imm fun _ => rfl)⟩
theorem rc_abs {i : Int} : RcD K rAbsU ka [.val (.int i)] (.val (.int (if i < 0 then -i else i))) := fun B F0 ro ta sg H us Q e hl hm q => by
  obtain ⟨u, rfl, hu⟩ := zip_one hl hm
  obtain rfl := e.tm_int hu
  exact ⟨i, rfl, q _ _ (e.push_imm fun _ => rfl)⟩
theorem rpl_ints {F : Hp} : ∀ (zs : List Int), RpL K F (zs.map D.int) (zs.map V.int)
  | [] => rfl
  | z :: zs => ⟨.int z, _, rfl, rfl, rpl_ints zs⟩
/-- a slot's cell is frozen -/
theorem Gp.frz {i j : Nat} {ds : List D} (hi : ro[i]? = some (some (.val (.adr a)))) (hj : ka[j]? = some (a, .lst ds)) (h : Gp K B F0 ta P (ro.set i (some (.val (.lst ds)))) (ka.eraseIdx j)) : Gp K B F0 ta P ro ka := fun sg H e => by
  have hp : (ka.eraseIdx j ++ [(a, Nd.lst ds)]).Perm ka := by
    have hlt := (List.getElem?_eq_some_iff.mp hj).1
    have h2 : ka[j] = (a, Nd.lst ds) := (List.getElem?_eq_some_iff.mp hj).2
    have e3 : ka = ka.take j ++ (a, Nd.lst ds) :: ka.drop (j + 1) := by
      rw [← h2, List.getElem_cons_drop, List.take_append_drop]
    rw [List.eraseIdx_eq_take_drop_succ]
    refine List.Perm.trans List.perm_append_comm ?_
    show (((a, Nd.lst ds)) :: (ka.take j ++ ka.drop (j + 1))).Perm ka
    refine List.Perm.trans List.perm_middle.symm ?_
    rw [← e3]
  obtain ⟨F, g, e2⟩ := (e.perm hp).freeze_l
  refine h sg H ⟨F, g, (e2.frame (ro' := ro.set i (some (.val (.lst ds)))) (sg' := sg) (by rw [List.length_set]; exact e2.ln) fun k w q => ?_).held fun p hp => List.mem_cons_of_mem _ hp⟩
  by_cases hik : i = k
  · subst hik
    have hl := (List.getElem?_eq_some_iff.mp hi).1
    rw [List.getElem?_set_self hl] at q
    cases q
    obtain ⟨v, h1, h2⟩ := e2.sl i _ hi
    obtain rfl : v = .ref a := h2
    exact ⟨.ref a, h1, e2.tm _ List.mem_cons_self⟩
  · rw [List.getElem?_set_ne hik] at q
    exact e2.sl k w q
end
end DL

/-! DL1: contracts by number of arguments, bundles for the printed derivations (own work). -/
namespace DL
open PySem L2 PySem.W
abbrev Oc := Out → Cells → Prop
def Ct1 (R : W → Cells → Oc → Prop) : Ct := fun ws ka out => ∃ a, ws = [a] ∧ R a ka out
def Ct2 (R : W → W → Cells → Oc → Prop) : Ct := fun ws ka out => ∃ a b, ws = [a, b] ∧ R a b ka out
theorem ct1_len {R} : ∀ ws ka out, Ct1 R ws ka out → ws.length = 1 := fun _ _ _ ⟨_, h, _⟩ => by rw [h]; rfl
theorem ct2_len {R} : ∀ ws ka out, Ct2 R ws ka out → ws.length = 2 := fun _ _ _ ⟨_, _, h, _⟩ => by rw [h]; rfl
/-- how a call ends: it comes back with d, the cells k; it raises -/
def Rt (d : D) (k : Cells) : Oc := fun o k' => o = .ret d ∧ k' = k
section
variable {X : Cx} {k : Nat} {f C : Addr} {ps : List Str} {E : XK} {Ct' : Ct} {x m : Str} {p pos apos : Pos} {e o : Expr} {es : List Expr} {ta te to ti : TE} {t : TA}
/-- an own error with one field -/
structure Xn (P : Program) (w : World) (K : PySem.W.Frag) (mg : Str → Option Value) (base : Heap) (C : Addr) (fld : Str) : Prop where
  xc : Xc K C
  no : findIn K (.ref C) fld = some none
  ex : ∃ fI fd x, findIn K (.ref C) "__init__" = some (some (.ref fI)) ∧ typeIn K (.ref fI) = some (.type "function") ∧ FnOk P w K mg base (L2.CX P w) 1 fI fd ["self", x] (spI1 K C fld) ∧ Binds K fd ["self", x] []
namespace Xn
variable {P : Program} {w : World} {K : PySem.W.Frag} {mg : Str → Option Value} {base : Heap} {C : Addr} {fld : Str}
noncomputable def fI (Z : Xn P w K mg base C fld) : Addr := Classical.choose Z.ex
noncomputable def fd (Z : Xn P w K mg base C fld) : FuncData := Classical.choose (Classical.choose_spec Z.ex)
noncomputable def px (Z : Xn P w K mg base C fld) : Str := Classical.choose (Classical.choose_spec (Classical.choose_spec Z.ex))
theorem all (Z : Xn P w K mg base C fld) : findIn K (.ref C) "__init__" = some (some (.ref Z.fI)) ∧ typeIn K (.ref Z.fI) = some (.type "function") ∧ FnOk P w K mg base (L2.CX P w) 1 Z.fI Z.fd ["self", Z.px] (spI1 K C fld) ∧ Binds K Z.fd ["self", Z.px] [] :=
  Classical.choose_spec (Classical.choose_spec (Classical.choose_spec Z.ex))
end Xn
end
end DL
namespace DL
open PySem L2 PySem.W
/-- what BlkOk asks, as one thing to be decided -/
def blkB (N : List Str) (sc scope : Scope) (own : List (Str × Nat)) : Bool :=
  decide (scope.kind = .function ∧ (∀ p ∈ own, N[p.2]? = some p.1) ∧ ∀ y ∈ scope.names, scope.names.lookup y.1 = some y.2 ∧ (y.2 = .free → sc.names.lookup y.1 = some .cell ∨ sc.names.lookup y.1 = some .free) ∧ (y.2 = .local ∨ y.2 = .cell → y.1 ∈ own.map (·.1) ∨ y.1 ∉ N))
theorem blk_ok {N : List Str} {sc scope : Scope} {own : List (Str × Nat)} (N' : List Str) (sc' : Scope) (eN : N = N') (eS : sc = sc') (h : blkB N' sc' scope own = true) : BlkOk N sc scope own :=
  let ⟨fn, at_, each⟩ := of_decide_eq_true h
  eN ▸ eS ▸ { kind := fn, uniq := fun y m => (each y m).1, ix := at_, free := fun y m => (each y m).2.1, own := fun y m => (each y m).2.2 }
end DL

/-! DM: shorter words (own work). -/
namespace DL
open PySem L2 PySem.W
section
variable {K : PySem.W.Frag} {B F F0 : Hp} {ro : Ro} {ka k1 k2 k3 kr : Cells} {ta : List (V × W)} {sg : L2.St} {H H' : Hp} {te tf tg : TE} {tr : TA} {tt tu : TT} {w x y z : W} {n m : Nd} {C dx a : Addr} {fs : List (Str × D)} {b : Bool} {P : L2.St → Hp → Prop} {De : Ends} {t u : TS} {E : XK}
theorem ea1 (h : EvD K te ro ka x k1) : EvA K (tCons te tNil) ro ka [x] k1 := ea_cons h ea_nil
theorem ea2 (h : EvD K te ro ka x k1) (h2 : EvD K tf ro k1 y k2) : EvA K (tCons te (tCons tf tNil)) ro ka [x, y] k2 := ea_cons h (ea1 h2)
theorem ea3 (h : EvD K te ro ka x k1) (h2 : EvD K tf ro k1 y k2) (h3 : EvD K tg ro k2 z k3) : EvA K (tCons te (tCons tf (tCons tg tNil))) ro ka [x, y, z] k3 := ea_cons h (ea2 h2 h3)
theorem EvA.to {ws ws' : List W} (h : EvA K tr ro ka ws k1) (e : ws = ws') : EvA K tr ro ka ws' k1 := e ▸ h
theorem ev_len {t b : Bool} {ds : List D} (h : EvD K te ro ka w k1) (l : Lk k1 w t ds b) : EvD K (tCB (rLenU K) (tCons te tNil)) ro ka (.val (.int ds.length)) k1 := ev_cb (ea1 h) (rc_len l)
theorem ev_eq {d e : D} (h : EvD K te ro ka x k1) (h2 : EvD K tf ro k1 y k2) (l1 : Pk k2 x d) (l2 : Pk k2 y e) (p1 : pl 61 d = true) (p2 : pl 61 e = true) : EvD K (tOp (rEqP K false) te tf) ro ka (.val (.bl (eqD d e))) k2 := ev_op h h2 (rv_eqP l1 l2 p1 p2)
theorem ev_ne {d e : D} (h : EvD K te ro ka x k1) (h2 : EvD K tf ro k1 y k2) (l1 : Pk k2 x d) (l2 : Pk k2 y e) (p1 : pl 61 d = true) (p2 : pl 61 e = true) : EvD K (tOp (rEqP K true) te tf) ro ka (.val (.bl (!eqD d e))) k2 := ev_op h h2 (rv_neP l1 l2 p1 p2)
theorem ev_eqI {i j : Int} (h : EvD K te ro ka (.val (.int i)) k1) (h2 : EvD K tf ro k1 (.val (.int j)) k2) : EvD K (tOp (rEqP K false) te tf) ro ka (.val (.bl (i == j))) k2 := ev_eq h h2 .v .v rfl rfl
theorem ev_addI {i j : Int} (h : EvD K te ro ka (.val (.int i)) k1) (h2 : EvD K tf ro k1 (.val (.int j)) k2) : EvD K (tOp (rAddU K) te tf) ro ka (.val (.int (i + j))) k2 := ev_op h h2 rv_addI
theorem ev_subI {i j : Int} (h : EvD K te ro ka (.val (.int i)) k1) (h2 : EvD K tf ro k1 (.val (.int j)) k2) : EvD K (tOp rSubI te tf) ro ka (.val (.int (i - j))) k2 := ev_op h h2 rv_sub
theorem ev_modI {i j : Int} (h : EvD K te ro ka (.val (.int i)) k1) (h2 : EvD K tf ro k1 (.val (.int j)) k2) (c : 0 < j) : EvD K (tOp rModI te tf) ro ka (.val (.int (i % j))) k2 := ev_op h h2 (rv_mod c)
theorem ev_divI {i j : Int} (h : EvD K te ro ka (.val (.int i)) k1) (h2 : EvD K tf ro k1 (.val (.int j)) k2) (c : CDiv i j) : EvD K (tOp rDivI te tf) ro ka (.val (.int (i / j))) k2 := ev_op h h2 (rv_div c)
theorem ev_powI {i j : Int} (h : EvD K te ro ka (.val (.int i)) k1) (h2 : EvD K tf ro k1 (.val (.int j)) k2) (c : CPow i j) : EvD K (tOp rPowI te tf) ro ka (.val (.int (i ^ j.toNat))) k2 := ev_op h h2 (rv_pow c)
theorem ev_lt {i j : Int} (h : EvD K te ro ka (.val (.int i)) k1) (h2 : EvD K tf ro k1 (.val (.int j)) k2) : EvD K (tOp rLtI te tf) ro ka (.val (.bl (decide (i < j)))) k2 := ev_op h h2 rv_lt
theorem ev_int1 {i : Int} (h : EvD K te ro ka (.val (.int i)) k1) : EvD K (tCB rIntU (tCons te tNil)) ro ka (.val (.int i)) k1 := ev_cb (ea1 h) rc_int
theorem ev_addS {i j : Str} (h : EvD K te ro ka (.val (.str i)) k1) (h2 : EvD K tf ro k1 (.val (.str j)) k2) (hz : i.length + j.length ≤ 100000) : EvD K (tOp (rAddU K) te tf) ro ka (.val (.str (i ++ j))) k2 := ev_op h h2 (rv_addS hz)
theorem ev_ix {t b : Bool} {ds : List D} {i : Int} {d : D} (h : EvD K te ro ka w k1) (h2 : EvD K tf ro k1 (.val (.int i)) k2) (l : Lk k2 w t ds b) (hd : atI ds i = some d) : EvD K (tOp (rIx K) te tf) ro ka (part b d) k2 := ev_op h h2 (rv_ix l hd)
theorem ev_ixV {t : Bool} {ds : List D} {i : Int} {d : D} (h : EvD K te ro ka w k1) (h2 : EvD K tf ro k1 (.val (.int i)) k2) (l : Lk k2 w t ds false) (hd : atI ds i = some d) : EvD K (tOp (rIx K) te tf) ro ka (.val d) k2 := ev_ix h h2 l hd
/-! ### calls -/
/-- a contract that works on no cells -/
theorem ev_callP {Cc : Ct} {ws : List W} {d : D} (ha : EvA K tr ro ka ws k1) (hC : Cc ws [] (Rt d [])) : EvD K (tCall (spC K Cc) [] E tr) ro ka (.val d) k1 := ev_callF (k1 := []) (k2 := []) k1 ha hC fun _ _ h => h
/-- the call's end is told by a word: any data, any cells -/
theorem sp_rel {Cc : Ct} {ws : List W} {out : Oc} {vs : List V} {Q : VK} (e : En K B F0 ro (ka ++ kr) (vs.zip ws ++ ta) sg H) (hl : vs.length = ws.length) (hC : Cc ws ka out) (ho : ∀ o k, out o k → ∃ d, o = .ret d)
    (q : ∀ d k2 v H', out (.ret d) k2 → En K B F0 ro (k2 ++ kr) ((v, .val d) :: ta) sg H' → Q v H') : spC K Cc vs H Q E := by
  obtain ⟨F, g, e⟩ := e
  refine ⟨off H ka, F, ws, ka, out, hC, hl, ⟨F, Gr.refl _ _, e.into (ro' := []) (sg' := []) (ta' := vs.zip ws) rfl (fun i w h => by simp at h) fun p hp => List.mem_append_left _ hp⟩, fun d' k v H' o ⟨F', g', e'⟩ => ?_, fun C fs k dx H' o _ => ?_, fun C k H' o _ => ?_⟩
  · obtain ⟨g2, e2⟩ := e.back g' e' (tb := (v, .val d') :: ta) fun p hp => by
      rcases List.mem_cons.mp hp with rfl | hp
      · exact .inr ⟨d', rfl, List.mem_cons_self⟩
      · exact .inl (List.mem_append_right _ hp)
    exact q d' k v H' o ⟨F', g.trans g2, e2⟩
  · obtain ⟨_, z⟩ := ho _ _ o
    cases z
  · obtain ⟨_, z⟩ := ho _ _ o
    cases z
theorem g_call {Cc : Ct} {ws : List W} {out : Oc} {i : Nat} (kr : Cells) (ha : EvA K tr ro ka ws (k1 ++ kr)) (hC : Cc ws k1 out) (ho : ∀ o k, out o k → ∃ d, o = .ret d) (k : ∀ d k2, out (.ret d) k2 → Gp K B F0 ta De.nx (ro.set i (some (.val d))) (k2 ++ kr)) :
    Gp K B F0 ta (tAsg (tCall (spC K Cc) [] E tr) (gName i) De) ro ka := fun sg H e => ha B F0 ta sg H _ e fun vs H1 hl e1 => by
  rw [List.append_nil]
  exact sp_rel e1 hl hC ho fun d k2 v H' o e2 => k d k2 o _ _ (e2.set i)
theorem q_call {Cc : Ct} {ws : List W} {out : Oc} {i : Nat} (kr : Cells) (ha : EvA K tr ro ka ws (k1 ++ kr)) (hC : Cc ws k1 out) (ho : ∀ o k, out o k → ∃ d, o = .ret d) (k : ∀ d k2, out (.ret d) k2 → Gp K B F0 ta (u De) (ro.set i (some (.val d))) (k2 ++ kr)) :
    Gp K B F0 ta (tSeq (tAsg (tCall (spC K Cc) [] E tr) (gName i)) u De) ro ka := g_call (De := { De with nx := u De }) kr ha hC ho k
theorem Gp.perm (h : Gp K B F0 ta P ro k1) (s : k1.Perm ka) : Gp K B F0 ta P ro ka := fun sg H e => h sg H (e.perm s)
end
end DL

/-! DN: comprehensions that map and choose; names, numbers (own work). -/
namespace DL
open PySem L2 PySem.W
section
variable {K : PySem.W.Frag} {ro : Ro} {ka k1 : Cells} {te : TE} {tt : TT} {wi : TI} {C : Cells → Prop} {j : Nat} {vs : List Nat} {α : Type}
theorem et_yes : EvT K tYes ro ka true ka := fun B F0 ta sg H Q e q => q H e
theorem take_succ_some {xs : List α} {i : Nat} {x : α} (h : xs[i]? = some x) : xs.take (i + 1) = xs.take i ++ [x] := by
  rw [List.take_succ, h]
  rfl
theorem evn_filt {xs : List α} {g : α → W} {f : α → D} {p : α → Bool} (h : EvI K wi ro ka (xs.map g) C k1) (hj : j ∈ vs) (hn : xs.length ≤ 1000000) (hC : C k1 ∧ ∀ x, C (k1 ++ [x]))
    (ht : ∀ x ∈ xs, EvT K tt ((wipeR ro vs).set j (some (g x))) k1 (p x) k1) (hs : ∀ x ∈ xs, p x = true → EvD K te ((wipeR ro vs).set j (some (g x))) k1 (.val (f x)) k1) : EvN K (tLc wi (gName j) tt te vs) ro ka (.lst ((xs.filter p).map f)) k1 := by
  refine evn_lc h hj (by rw [List.length_map]; exact hn) (fun i acc k => acc = ((xs.take i).filter p).map f ∧ k = k1) ⟨rfl, rfl⟩ (fun i acc k ⟨_, e⟩ => by subst e; exact hC) (fun i w acc k hw ⟨e1, e2⟩ => ?_) (fun acc k ⟨e1, e2⟩ => ⟨?_, e2⟩)
  · subst e1 e2
    rw [List.getElem?_map] at hw
    cases hx : xs[i]? with
    | none => rw [hx] at hw; cases hw
    | some x =>
      rw [hx] at hw
      cases hw
      have hm : x ∈ xs := List.mem_of_getElem? hx
      cases hp : p x with
      | false =>
        refine .inl ⟨k, hp ▸ ht x hm, ?_, rfl⟩
        rw [take_succ_some hx, List.filter_append]
        simp [hp]
      | true =>
        refine .inr ⟨k, k, f x, hp ▸ ht x hm, hs x hm hp, ?_, rfl⟩
        rw [take_succ_some hx, List.filter_append]
        simp [hp]
  · rw [e1, List.length_map, List.take_length]
theorem evn_map {xs : List α} {g : α → W} {f : α → D} (h : EvI K wi ro ka (xs.map g) C k1) (hj : j ∈ vs) (hn : xs.length ≤ 1000000) (hC : C k1 ∧ ∀ x, C (k1 ++ [x]))
    (hs : ∀ x ∈ xs, EvD K te ((wipeR ro vs).set j (some (g x))) k1 (.val (f x)) k1) : EvN K (tLc wi (gName j) tYes te vs) ro ka (.lst (xs.map f)) k1 := by
  have := evn_filt (tt := tYes) (p := fun _ => true) h hj hn hC (fun _ _ => et_yes) (fun x hx _ => hs x hx)
  have e : xs.filter (fun _ => true) = xs := List.filter_eq_self.mpr fun _ _ => rfl
  rwa [e] at this
end
def letL : List Nat := ("abcdefghijklmnopqrstuvwxyz" : Str).cps.toList
def digL : List Nat := ("0123456789" : Str).cps.toList
/-- is a text a name: its signs -/
def nmL : List Nat → Bool
  | [] => false
  | c :: r => decide ((c :: r).length ≤ 8) && (decide (c ∈ letL) && (c :: r).all fun x => decide (x ∈ letL) || decide (x ∈ digL))
def isNm (s : Str) : Bool := nmL s.cps.toList
def stD (ss : List Str) : List D := ss.map .str
section
variable {K : PySem.W.Frag} {ka kr : Cells} {w : W} {t b : Bool} {ds : List D}
theorem Lk.stay (l : Lk ka w t ds b) : Stay w ds ka := by
  cases l with
  | vl => trivial
  | vt => trivial
  | wl => trivial
  | wt => trivial
  | ce j h => exact List.mem_of_getElem? h
theorem Lk.app (l : Lk ka w t ds b) : Lk (ka ++ kr) w t ds b := l.mono _ (by
  have := l.stay
  unfold Stay at this ⊢
  split
  · rename_i a
    exact List.mem_append_left _ this
  · trivial)
end
end DL
namespace DL
open PySem L2 PySem.W
section
variable {K : PySem.W.Frag} {B F0 : Hp} {ro : Ro} {ka k1 k2 : Cells} {ta : List (V × W)} {tt : TT} {De : Ends} {t u : TS}
end
/-! ### the pool of the laws -/
structure Pl where
  a : Int
  b : Int
  c : Int
def Pl.ds (p : Pl) : List D := [.int p.a, .int p.b, .int p.c]
structure Pl.Ok (p : Pl) (n : Int) : Prop where
  a0 : 0 ≤ p.a
  b0 : 0 ≤ p.b
  b1 : p.b < 1000000007
  c0 : 0 ≤ p.c
  c1 : p.c ≤ n
theorem Pl.Ok.up {p : Pl} {m n : Int} (h : p.Ok m) (l : m ≤ n) : p.Ok n := ⟨h.a0, h.b0, h.b1, h.c0, Int.le_trans h.c1 l⟩
/-- one draw below m -/
def tk (p : Pl) (m : Int) : Int × Pl :=
  if 0 < p.a then (p.a % m, ⟨p.a / m, p.b, p.c⟩)
  else (((p.b + 7919 * (p.c + 1) + 104729) ^ (5 : Int).toNat % 2147483647 + (p.c + 1)) * 40692 % 2147483629 % m, ⟨p.a, p.b, p.c + 1⟩)
end DL

/-! DP: texts by their signs (own work). -/
namespace DL
open PySem L2 PySem.W
/-- the text of these signs -/
def tx (l : List Nat) : Str := ⟨l.toArray⟩
section
variable {K : PySem.W.Frag} {ro : Ro} {ka k1 k2 k3 : Cells} {te tf : TE} {tl th : TO}
end
end DL

/-! DR: expressions that raise, by data (own work). -/
namespace DL
open PySem L2 PySem.W
/-- te ends with an exception of C1, with the fields gs -/
def EvX (K : PySem.W.Frag) (te : TE) (ro : Ro) (ka : Cells) (E : XK) (C1 : Addr) (gs : List (Str × D)) (k2 : Cells) : Prop := ∀ B F0 ta sg H (Q : VK), En K B F0 ro ka ta sg H → (∀ dx H', En K B F0 ro (k2 ++ [(dx, .xd gs)]) ta sg H' → E (.ref C1) (some dx) H') → te sg H Q
section
variable {K : PySem.W.Frag} {B F0 : Hp} {ro : Ro} {ka k1 k2 k3 kr : Cells} {ta : List (V × W)} {sg : L2.St} {H : Hp} {te tf : TE} {tr : TA} {x y : W} {C C1 : Addr} {fs gs : List (Str × D)} {b : Bool} {E : XK} {De : Ends}
end
end DL
namespace DL
open PySem L2 PySem.W
end DL
namespace DL
open PySem L2 PySem.W
end DL
namespace DL
open PySem L2 PySem.W
def inD (ns : List Int) : List D := ns.map .int
/-- w is the script -/
def Scr (K : PySem.W.Frag) (w : W) (ns : List Int) : Prop := w = .val (.lst (inD ns)) ∨ ∃ p, w = .val (.adr p) ∧ ∀ H, SqL K H p (ns.map V.int)
theorem law_sp {K : PySem.W.Frag} {Cc : Ct} {H : Hp} {a : Addr} {ns : List Int} (hC : ∀ z, Scr K z ns → Cc [z] [] (Rt (.bl true) [])) (hS : SqL K H a (ns.map V.int)) : spC K Cc [.ref a] H (fun v _ => v = .bl true) fun _ _ _ => False := by
  have rt : ∀ {B F0 : Hp}, RtOk K B F0 (Rt (.bl true) []) (fun v _ => v = .bl true) := fun {B F0} d ka v H' o e => by
    obtain ⟨h, _⟩ := o
    cases h
    exact e.tm_bl List.mem_cons_self
  have rx : ∀ {B F0 : Hp}, RxOk K B F0 (Rt (.bl true) []) (fun _ _ _ => False) := fun {B F0} => ⟨fun C fs ka dx H' o _ => (by cases o.1), fun C ka H' o _ => (by cases o.1)⟩
  have nob : Sub (fun _ => none) H := fun _ _ h => by cases h
  rcases id hS with h | h
  · refine ⟨fun _ => none, gH H, [.val (.lst (inD ns))], [], _, hC _ (.inl rfl), rfl, ⟨gH H, Gr.refl _ _, gH_nz, gH_exz, nob, List.nodup_nil, fun p hp => (by cases hp), rfl, fun i w e => by simp at e, fun p hp => ?_⟩, rt, rx⟩
    have hp2 : p = (V.ref a, W.val (.lst (inD ns))) := by simpa using hp
    subst hp2
    refine ⟨a, ns.map V.int, rfl, .inl ?_, rpl_ints ns⟩
    unfold gH
    rcases h with h | ⟨o, h⟩
    · rw [h]
    · rw [h]
      rfl
  · refine ⟨fun _ => none, fun _ => none, [.val (.adr a)], [], _, hC _ (.inr ⟨a, rfl, fun _ => .inr h⟩), rfl, ⟨fun _ => none, Gr.refl _ _, fun _ _ h => (by cases h), fun _ _ h => (by cases h), nob, List.nodup_nil, fun p hp => (by cases hp), rfl, fun i w e => by simp at e, fun p hp => ?_⟩, rt, rx⟩
    have hp2 : p = (V.ref a, W.val (.adr a)) := by simpa using hp
    subst hp2
    rfl
/-- what the head must tell of a law's def: its contract, kept by every list of numbers -/
def LawIn (l : PySem.W.OpenLaw) (k : Nat) (x : Str) (w : World) (mg : Str → Option Value) (f : Addr) (h : Heap) : Prop :=
  ∃ (K : PySem.W.Frag) (Cc : Ct) (fd : FuncData), K.In h ∧ (∀ z ns, Scr K z ns → Cc [z] [] (Rt (.bl true) [])) ∧ (∀ (s : Shared) (u : Value), BindsTo s fd ⟨[u], []⟩ [(x, u)]) ∧ ∀ base : Heap, FnOk l.prog w K mg base (L2.CX l.prog w) k f fd [x] (spC K Cc)
abbrev LawWalk (l : PySem.W.OpenLaw) (q : Program) (loose : List Str) (XP : (Str → Option Value) → Heap → Prop) (YP : World → Heap → Prop) (d : DefRec) : Prop := PySem.W.WalkO q loose XP YP l.row.toRowW d [] (fun g us => PySem.call g us)
/-- the law's walk, from what the head tells -/
theorem walk_D {l : PySem.W.OpenLaw} {n k : Nat} {q : Program} {loose : List Str} {XP : (Str → Option Value) → Heap → Prop} {YP : World → Heap → Prop} {d : DefRec} {x : Str} (most : l.most = some n) (fits : n ≤ sizeLine)
    (plain : d.params.defaults = []) (room : Room k callerA) (told : ∀ w mg f h, YP w h → h.Ns mainGlobals mg → mg d.name = some (.ref f) → LawIn l k x w mg f h) : LawWalk l q loose XP YP d :=
  Att.attach_call most plain fun w _ _ mg _ f _ _ _ _ arg vs ns G known _ _ _ at_ obj nums short grown => by
    have ⟨K, Cc, fd, inH, keeps, binds, ok⟩ := told w mg f _ known G.T.g at_
    exact law_call inH G.T.g G.T.b G.T.builtins G.T.nolimit grown obj nums (Nat.le_trans short fits) room (fun base _ _ => ok base) binds (fun H _ S => law_sp (fun z hz => keeps z ns hz) S) fun H e s' z => by
      obtain ⟨_, _, _, _, _, _, _, _, _, _, _, _, bad⟩ := z
      exact bad
end DL

/-! DU: tuple * number (own work). -/
namespace DL
open PySem PySem.Spec PyProof.Rows L2
section
open PySem.W
variable {K : PySem.W.Frag} {ro : Ro} {ka k1 k2 : Cells} {te tf : TE}
end
end DL

/-! DV: dicts, sorted texts, data compared by < (own work). -/
namespace DL
open PySem L2 PySem.W

/-! ### tables -/
section
variable {κ α β : Type} [DecidableEq κ]
def getT (kvs : List (κ × α)) (k : κ) : Option α := (kvs.find? fun kv => decide (kv.1 = k)).map (·.2)
def hasT (kvs : List (κ × α)) (k : κ) : Bool := kvs.any fun p => decide (p.1 = k)
def newAt (k : κ) (v : α) (p : κ × α) : κ × α := if p.1 = k then (p.1, v) else p
/-- a key that stands keeps its place, a new one comes last -/
def putT (kvs : List (κ × α)) (k : κ) (v : α) : List (κ × α) := if hasT kvs k = true then kvs.map (newAt k v) else kvs ++ [(k, v)]
def dropT (kvs : List (κ × α)) (k : κ) : List (κ × α) := kvs.filter fun kv => decide (kv.1 ≠ k)
/-- tables of the same keys -/
def PT (R : α → β → Prop) : List (κ × α) → List (κ × β) → Prop
  | [], xs => xs = []
  | (k, d) :: ds, xs => ∃ x ys, xs = (k, x) :: ys ∧ R d x ∧ PT R ds ys
variable {R : α → β → Prop}
theorem PT.any : ∀ {ds : List (κ × α)} {xs : List (κ × β)}, PT R ds xs → ∀ k, hasT xs k = hasT ds k
  | [], xs, h, k => by rw [show xs = [] from h]; rfl
  | (k', d) :: ds, xs, h, k => by
    obtain ⟨x, ys, rfl, _, h2⟩ := h
    unfold hasT
    rw [List.any_cons, List.any_cons]
    exact congrArg (fun z => decide (k' = k) || z) (PT.any h2 k)
theorem PT.map (k : κ) {d : α} {x : β} (r : R d x) : ∀ {ds : List (κ × α)} {xs : List (κ × β)}, PT R ds xs → PT R (ds.map (newAt k d)) (xs.map (newAt k x))
  | [], xs, h => by rw [show xs = [] from h]; rfl
  | (k', d') :: ds, xs, h => by
    obtain ⟨x', ys, rfl, h1, h2⟩ := h
    have rest := PT.map k r h2
    by_cases e : k' = k
    · have e1 : newAt k d (k', d') = (k', d) := if_pos e
      have e2 : newAt k x (k', x') = (k', x) := if_pos e
      rw [List.map_cons, e1, List.map_cons, e2]
      exact ⟨x, _, rfl, r, rest⟩
    · have e1 : newAt k d (k', d') = (k', d') := if_neg e
      have e2 : newAt k x (k', x') = (k', x') := if_neg e
      rw [List.map_cons, e1, List.map_cons, e2]
      exact ⟨x', _, rfl, h1, rest⟩
theorem PT.snoc {k : κ} {d : α} {x : β} (r : R d x) : ∀ {ds : List (κ × α)} {xs : List (κ × β)}, PT R ds xs → PT R (ds ++ [(k, d)]) (xs ++ [(k, x)])
  | [], xs, h => by rw [show xs = [] from h]; exact ⟨x, [], rfl, r, rfl⟩
  | (k', d') :: ds, xs, h => by
    obtain ⟨x', ys, rfl, h1, h2⟩ := h
    exact ⟨x', _, rfl, h1, PT.snoc r h2⟩
theorem PT.put {ds : List (κ × α)} {xs : List (κ × β)} (h : PT R ds xs) (k : κ) {d : α} {x : β} (r : R d x) : PT R (putT ds k d) (putT xs k x) := by
  unfold putT
  rw [h.any k]
  split
  · exact h.map k r
  · exact h.snoc r
theorem PT.drop (k : κ) : ∀ {ds : List (κ × α)} {xs : List (κ × β)}, PT R ds xs → PT R (dropT ds k) (dropT xs k)
  | [], xs, h => by rw [show xs = [] from h]; rfl
  | (k', d') :: ds, xs, h => by
    obtain ⟨x', ys, rfl, h1, h2⟩ := h
    unfold dropT
    rw [List.filter_cons, List.filter_cons]
    by_cases e : k' = k
    · rw [if_neg (by simpa using e), if_neg (by simpa using e)]; exact PT.drop k h2
    · rw [if_pos (by simpa using e), if_pos (by simpa using e)]; exact ⟨x', _, rfl, h1, PT.drop k h2⟩
theorem PT.get (k : κ) : ∀ {ds : List (κ × α)} {xs : List (κ × β)}, PT R ds xs → (getT ds k = none → getT xs k = none) ∧ ∀ d, getT ds k = some d → ∃ x, getT xs k = some x ∧ R d x
  | [], xs, h => by rw [show xs = [] from h]; exact ⟨fun _ => rfl, fun d q => by cases q⟩
  | (k', d') :: ds, xs, h => by
    obtain ⟨x', ys, rfl, h1, h2⟩ := h
    by_cases e : k' = k
    · have e1 : getT ((k', d') :: ds) k = some d' := by simp [getT, List.find?_cons, e]
      have e2 : getT ((k', x') :: ys) k = some x' := by simp [getT, List.find?_cons, e]
      rw [e1, e2]
      refine ⟨fun q => (by cases q), fun d q => ?_⟩
      cases q
      exact ⟨x', rfl, h1⟩
    · have e1 : getT ((k', d') :: ds) k = getT ds k := by simp [getT, List.find?_cons, e]
      have e2 : getT ((k', x') :: ys) k = getT ys k := by simp [getT, List.find?_cons, e]
      rw [e1, e2]
      exact PT.get k h2
theorem PT.len : ∀ {ds : List (κ × α)} {xs : List (κ × β)}, PT R ds xs → xs.length = ds.length
  | [], xs, h => by rw [show xs = [] from h]; rfl
  | (k', d') :: ds, xs, h => by
    obtain ⟨x', ys, rfl, h1, h2⟩ := h
    rw [List.length_cons, List.length_cons, PT.len h2]
theorem PT.at : ∀ {ds : List (κ × α)} {xs : List (κ × β)}, PT R ds xs → ∀ {i : Nat} {p : κ × α}, ds[i]? = some p → ∃ x, xs[i]? = some (p.1, x) ∧ R p.2 x
  | [], xs, h, i, p, e => by simp at e
  | (k', d') :: ds, xs, h, 0, p, e => by
    obtain ⟨x', ys, rfl, h1, h2⟩ := h
    cases e
    exact ⟨x', rfl, h1⟩
  | (k', d') :: ds, xs, h, i + 1, p, e => by
    obtain ⟨x', ys, rfl, h1, h2⟩ := h
    exact PT.at h2 (i := i) (by simpa using e)
end
section
variable {K : PySem.W.Frag} {B F F0 : Hp} {ro : Ro} {ka k1 k2 k3 kr : Cells} {ta : List (V × W)} {sg : L2.St} {H H' : Hp} {te tf tg tk tv : TE} {tr : TA} {tt tu : TT} {w x y z : W} {n m : Nd} {C dx a : Addr} {b : Bool} {P : L2.St → Hp → Prop} {De : Ends} {t u : TS} {E : XK}
/-- the different ones, in the order in which they come -/
def dedS (xs : List Str) : List Str := xs.foldl (fun acc s => if s ∈ acc then acc else acc ++ [s]) []
end
end DL

/-! DW: data of any depth: in, < (own work). -/
namespace DL
open PySem L2 PySem.W PySem.SeqAt
mutual
def pdD : D → PyData
  | .bl b => .bool b | .int i => .int i | .str s => .str s
  | .tup ds => .tuple (pdL ds) | .lst ds => .list (pdL ds)
  | _ => .none
def pdL : List D → List PyData
  | [] => []
  | d :: ds => pdD d :: pdL ds
end
section
variable {X : Cx} {pins : List (Addr × Obj)} {sg : L2.St} {H G : Hp} {s : Shared}
end
/-- values of α as data -/
structure Enc (α : Type) [DecidableEq α] [Datum α] (f : α → D) : Prop where
  pd : ∀ a, pdD (f a) = Datum.toD a
  pl : ∀ a, DL.pl 60 (f a) = true
section
variable {K : PySem.W.Frag} {B F F0 : Hp} {ro : Ro} {ka k1 k2 k3 kr : Cells} {ta : List (V × W)} {sg : L2.St} {H H' : Hp} {te tf tg : TE} {w x y z : W}
variable {α : Type} [DecidableEq α]
end

end DL

/-! DX: a dict comprehension stored in a local name on its own line (own work over the hand layer's dc_core). -/
namespace DL
open PySem PySem.Spec PyProof.Rows L2
section
variable {X : Cx} {i : Nat} {y : Str} {py pos spos : Pos} {kx vx tg iter : Expr} {ifs : List Expr} {scope : Scope} {own : List (Str × Nat)} {wi : TI} {g : TG} {tt : TT} {tk tv : TE}
end
end DL

/-! DY: != of two tuples whose items are equal, some by an own == (own work; the equality of the items is the hand layer's EqG). -/
namespace DL
open PySem L2 PySem.SeqAt
section
variable {prog : Program} {w : World}
end
section
variable {X : Cx} {n : Nat} {D : Eqv}
end
end DL
namespace DL
open PySem L2 PySem.W
section
variable {K : PySem.W.Frag} {B F F0 : Hp} {ro : Ro} {ka k1 k2 : Cells} {ta : List (V × W)} {sg : L2.St} {H H' : Hp} {te tf : TE} {C : Addr} {Cc : Ct}
theorem En.ext (e : En K B F0 ro ka ta sg H) (x : L2.Ext H H') : En K B F0 ro ka ta sg H' := by
  obtain ⟨F, g, q⟩ := e
  refine ⟨F, g, q.nz, q.fz.sub x, fun a o h => x _ _ (q.fr _ _ h), q.nd, fun p hp => ?_, q.ln, q.sl, q.tm⟩
  obtain ⟨h1, h2, h3⟩ := q.ce p hp
  refine ⟨h1, h2, ?_⟩
  obtain ⟨a, n⟩ := p
  cases n with
  | lst ds => obtain ⟨xs, e, r⟩ := h3; exact ⟨xs, x _ _ e, r⟩
  | dic ds => obtain ⟨xs, e, r⟩ := h3; exact ⟨xs, x _ _ e, r⟩
  | dit ds => obtain ⟨xs, e, r⟩ := h3; exact ⟨xs, x _ _ e, r⟩
  | ldic o xs ds => obtain ⟨e, r⟩ := h3; exact ⟨x _ _ e, r⟩
  | ins C ds => obtain ⟨dx, xs, e, r⟩ := h3; exact ⟨dx, xs, x _ _ e, r⟩
  | xd ds => obtain ⟨xs, e, r⟩ := h3; exact ⟨xs, x _ _ e, r⟩
  | din w ds => obtain ⟨xs, e, r⟩ := h3; exact ⟨xs, x _ _ e, r⟩
end
end DL

/-! DZ: evaluation by a relation (own work). -/
namespace DL
open PySem L2 PySem.W
/-- te ends with some value and cells of which P tells -/
def EvR (K : PySem.W.Frag) (te : TE) (ro : Ro) (ka : Cells) (P : W → Cells → Prop) : Prop := ∀ B F0 ta sg H (Q : VK), En K B F0 ro ka ta sg H → (∀ w k v H', P w k → En K B F0 ro k ((v, w) :: ta) sg H' → Q v H') → te sg H Q
def RvR (K : PySem.W.Frag) (r : R2) (ka : Cells) (x y : W) (P : W → Cells → Prop) : Prop := ∀ B F0 ro ta sg H u v (Q : VK), En K B F0 ro ka ta sg H → (u, x) ∈ ta → (v, y) ∈ ta → (∀ w k t H', P w k → En K B F0 ro k ((t, w) :: ta) sg H' → Q t H') → r u v H Q
section
variable {K : PySem.W.Frag} {B F F0 : Hp} {ro : Ro} {ka k1 k2 k3 kr : Cells} {ta : List (V × W)} {sg : L2.St} {H H' : Hp} {te tf tg : TE} {tr : TA} {w x y z : W} {n : Nd} {P P2 : W → Cells → Prop} {De : Ends} {u : TS} {E : XK} {r : R2}
theorem EvD.toR (h : EvD K te ro ka w k1) : EvR K te ro ka (fun w' k => w' = w ∧ k = k1) := fun B F0 ta sg H Q e q => h B F0 ta sg H Q e fun v H' e' => q w k1 v H' ⟨rfl, rfl⟩ e'
theorem En.tmA (e : En K B F0 ro ka ta sg H) (a : Addr) : En K B F0 ro ka ((.ref a, .val (.adr a)) :: ta) sg H := e.push_imm fun _ => rfl
theorem EvN.toR (h : EvN K te ro ka n k1) : EvR K te ro ka (fun w' k => ∃ a, w' = .val (.adr a) ∧ k = k1 ++ [(a, n)]) := fun B F0 ta sg H Q e q => h B F0 ta sg H Q e fun a H' e' => q _ _ _ H' ⟨a, rfl, rfl⟩ (e'.tmA a)
theorem EvR.imp (h : EvR K te ro ka P) (i : ∀ w k, P w k → P2 w k) : EvR K te ro ka P2 := fun B F0 ta sg H Q e q => h B F0 ta sg H Q e fun w k v H' p => q w k v H' (i w k p)
theorem RvD.toR (h : RvD K r ka x y z) : RvR K r ka x y (fun w' k => w' = z ∧ k = ka) := fun B F0 ro ta sg H u v Q e h1 h2 q => h B F0 ro ta sg H u v Q e h1 h2 fun t H' e' => q z ka t H' ⟨rfl, rfl⟩ e'
theorem RvN.toR (h : RvN K r ka x y n) : RvR K r ka x y (fun w' k => ∃ a, w' = .val (.adr a) ∧ k = ka ++ [(a, n)]) := fun B F0 ro ta sg H u v Q e h1 h2 q => h B F0 ro ta sg H u v Q e h1 h2 fun a H' e' => q _ _ _ H' ⟨a, rfl, rfl⟩ (e'.tmA a)
theorem RvR.imp (h : RvR K r ka x y P) (i : ∀ w k, P w k → P2 w k) : RvR K r ka x y P2 := fun B F0 ro ta sg H u v Q e h1 h2 q => h B F0 ro ta sg H u v Q e h1 h2 fun w k t H' p => q w k t H' (i w k p)
theorem EvR.op (h : EvR K te ro ka P) (h2 : ∀ w k, P w k → ∃ y k2, EvD K tf ro k y k2 ∧ RvR K r k2 w y P2) : EvR K (tOp r te tf) ro ka P2 := fun B F0 ta sg H Q e q =>
  h B F0 ta sg H _ e fun w k v H1 p e1 => by
    obtain ⟨y, k2, hb, hr⟩ := h2 w k p
    exact hb B F0 _ sg H1 _ e1 fun v2 H2 e2 => hr B F0 ro _ sg H2 v v2 Q e2 (List.mem_cons_of_mem _ List.mem_cons_self) List.mem_cons_self fun w3 k3 t H3 p3 e3 => q w3 k3 t H3 p3 (e3.held fun z hz => by
      rcases List.mem_cons.mp hz with rfl | hz
      · exact List.mem_cons_self
      · exact List.mem_cons_of_mem _ (List.mem_cons_of_mem _ (List.mem_cons_of_mem _ hz)))
theorem EvR.d (h : EvR K te ro ka P) (hP : ∀ w' k, P w' k → w' = w ∧ k = k1) : EvD K te ro ka w k1 := fun B F0 ta sg H Q e q => h B F0 ta sg H Q e fun w' k v H' p e' => by
  obtain ⟨rfl, rfl⟩ := hP w' k p
  exact q v H' e'
theorem ei_map {α : Type} {ts : List α} {f : α → D} (h : EvD K te ro ka (.val (.lst (ts.map f))) k1) : EvI K (iSeq K te) ro ka (ts.map fun t => W.val (f t)) (fun _ => True) k1 := by
  have := ei_seq h .vl
  have e : (ts.map f).map (part false) = ts.map fun t => W.val (f t) := by rw [List.map_map]; rfl
  rw [e] at this
  exact this
/-! ### targets -/
/-- the target g takes a value of w: the slots behind it -/
def AsT (K : PySem.W.Frag) (g : TG) (w : W) (ro ro' : Ro) : Prop := ∀ B F0 ka ta sg H v (Q : L2.St → Hp → Prop), En K B F0 ro ka ta sg H → (v, w) ∈ ta → (∀ sg', En K B F0 ro' ka ta sg' H → Q sg' H) → g v sg H Q
def AsL (K : PySem.W.Frag) (t : TGs) (ws : List W) (ro ro' : Ro) : Prop := ∀ B F0 ka ta sg H vs (Q : L2.St → Hp → Prop), En K B F0 ro ka ta sg H → vs.length = ws.length → (∀ p ∈ vs.zip ws, p ∈ ta) → (∀ sg', En K B F0 ro' ka ta sg' H → Q sg' H) → t vs sg H Q
variable {ro' ro2 : Ro} {g : TG} {t : TGs} {ws : List W}
theorem at_n {i : Nat} : AsT K (gName i) w ro (ro.set i (some w)) := fun B F0 ka ta sg H v Q ⟨F, g, e⟩ h q => q _ ⟨F, g, e.set (e.tm _ h) i⟩
theorem al_nil : AsL K gNil [] ro ro := fun B F0 ka ta sg H vs Q e hl h q => ⟨List.eq_nil_of_length_eq_zero hl, q _ e⟩
theorem al_cons (h1 : AsT K g w ro ro2) (h2 : AsL K t ws ro2 ro') : AsL K (gCons g t) (w :: ws) ro ro' := fun B F0 ka ta sg H vs Q e hl h q => by
  cases vs with
  | nil => cases hl
  | cons v r => exact ⟨v, r, rfl, h1 B F0 ka ta sg H v _ e (h _ List.mem_cons_self) fun sg1 e1 => h2 B F0 ka ta sg1 H r Q e1 (by simpa using hl) (fun p hp => h p (List.mem_cons_of_mem _ hp)) q⟩
theorem at_tup {ds : List D} {m : Nat} (hm : ds.length = m) (h : AsL K t (ds.map W.val) ro ro') : AsT K (gTup K m t) (.val (.tup ds)) ro ro' := fun B F0 ka ta sg H v Q e hv q => by
  obtain ⟨F, gr, ef⟩ := id e
  obtain ⟨a, xs, rfl, s1, r1⟩ := Lk.vt.get ef (ef.tm _ hv)
  refine ⟨a, xs, rfl, s1, by rw [rpl_len r1, hm], h B F0 ka (xs.zip (ds.map W.val) ++ ta) sg H xs Q ?_ (by rw [List.length_map, rpl_len r1]) (fun p hp => List.mem_append_left _ hp) fun sg' e' => q sg' (e'.held fun p hp => List.mem_append_right _ hp)⟩
  refine ⟨F, gr, ⟨ef.nz, ef.fz, ef.fr, ef.nd, ef.ce, ef.ln, ef.sl, fun p hp => ?_⟩⟩
  rcases List.mem_append.mp hp with hp | hp
  · have : ∀ (ds : List D) (xs : List V), RpL K F ds xs → ∀ p ∈ xs.zip (ds.map W.val), WOk K B F p.1 p.2 := by
      intro ds
      induction ds with
      | nil => intro xs h p hp; rw [show xs = [] from h] at hp; simp at hp
      | cons d ds ih =>
        intro xs h p hp
        obtain ⟨x, ys, rfl, h1, h2⟩ := h
        rcases List.mem_cons.mp hp with rfl | hp
        · exact h1
        · exact ih ys h2 p hp
    exact this ds xs r1 p hp
  · exact ef.tm p hp
theorem at_t2 {d1 d2 : D} {i j : Nat} : AsT K (gTup K 2 (gCons (gName i) (gCons (gName j) gNil))) (.val (.tup [d1, d2])) ro ((ro.set i (some (.val d1))).set j (some (.val d2))) := at_tup rfl (al_cons at_n (al_cons at_n al_nil))
theorem g_asgT (h : EvD K te ro ka w k1) (a : AsT K g w ro ro') (k : Gp K B F0 ta De.nx ro' k1) : Gp K B F0 ta (tAsg te g De) ro ka := fun sg H e => h B F0 ta sg H _ e fun v H1 e1 => a B F0 k1 _ sg H1 v _ e1 List.mem_cons_self fun sg' e' => k _ _ e'.pop
theorem q_asgT (h : EvD K te ro ka w k1) (a : AsT K g w ro ro') (k : Gp K B F0 ta (u De) ro' k1) : Gp K B F0 ta (tSeq (tAsg te g) u De) ro ka := g_asgT (De := { De with nx := u De }) h a k
/-- a loop whose target is of any form -/
theorem g_forT {wi : TI} {C : Cells → Prop} {tb : TS} (h : EvI K wi ro ka ws C k1) (Inv : Nat → Ro → Cells → Prop) (h0 : Inv 0 ro k1) (hC : ∀ i ro2 ka2, Inv i ro2 ka2 → C ka2)
    (hs : ∀ i w ro2 ka2 ta', ws[i]? = some w → Inv i ro2 ka2 → ∃ ro3, AsT K g w ro2 ro3 ∧ Gp K B F0 ta' (tb { De with nx := Jp K B F0 ta' (Inv (i + 1)), ct := Jp K B F0 ta' (Inv (i + 1)), bk := De.nx }) ro3 ka2)
    (hd : ∀ ro2 ka2 ta', Inv ws.length ro2 ka2 → (∀ p ∈ ta, p ∈ ta') → Gp K B F0 ta' De.nx ro2 ka2) : Gp K B F0 ta (tFor wi g tb De) ro ka :=
  g_for h Inv h0 hC (fun i w ro2 ka2 hw inv ta' sg H e x ex => by
    obtain ⟨ro3, a, gp⟩ := hs i w ro2 ka2 ta' hw inv
    exact a B F0 ka2 _ sg H x _ ex List.mem_cons_self fun sg' e' => gp _ _ e'.pop) hd
theorem q_forT {wi : TI} {C : Cells → Prop} {tb : TS} (h : EvI K wi ro ka ws C k1) (Inv : Nat → Ro → Cells → Prop) (h0 : Inv 0 ro k1) (hC : ∀ i ro2 ka2, Inv i ro2 ka2 → C ka2)
    (hs : ∀ i w ro2 ka2 ta', ws[i]? = some w → Inv i ro2 ka2 → ∃ ro3, AsT K g w ro2 ro3 ∧ Gp K B F0 ta' (tb { De with nx := Jp K B F0 ta' (Inv (i + 1)), ct := Jp K B F0 ta' (Inv (i + 1)), bk := u De }) ro3 ka2)
    (hd : ∀ ro2 ka2 ta', Inv ws.length ro2 ka2 → (∀ p ∈ ta, p ∈ ta') → Gp K B F0 ta' (u De) ro2 ka2) : Gp K B F0 ta (tSeq (tFor wi g tb) u De) ro ka := g_forT (De := { De with nx := u De }) h Inv h0 hC hs hd
end
end DL

/-! ER: a tuple read backwards (own work). -/
namespace DL
open PySem L2 PySem.W PyProof.Rows

section
variable {prog : Program} {w : World} {A : Around} {E : Value → Shared → Prop} {s : Shared}
end
section
variable {X : Cx} {e : Expr} {te : TE} {n : Nat} {pa pb pc pd : Pos}
end
end DL

/-! EA: dicts read and written, walked while frozen, objects frozen (own work). -/
namespace DL
open PySem L2 PySem.W

/-- w is a dict of ds; b: viewed -/
inductive Dk (ka : Cells) : W → List (Key × D) → Bool → Prop where
  | v {ds : List (Key × D)} : Dk ka (.val (.dic ds)) ds false
  | w {ds : List (Key × D)} : Dk ka (.vw (.dic ds)) ds true
  | ce {a : Addr} {ds : List (Key × D)} (j : Nat) (h : ka[j]? = some (a, .dic ds)) : Dk ka (.val (.adr a)) ds false
  | cl {a : Addr} {o : Obj} {xs : List (Key × V)} {ds : List (Key × D)} (j : Nat) (h : ka[j]? = some (a, .ldic o xs ds)) : Dk ka (.val (.adr a)) ds false
section
variable {K : PySem.W.Frag} {B B' F F' F0 : Hp} {ro ro' : Ro} {ka k1 k2 k3 kr : Cells} {ta : List (V × W)} {sg sg' : L2.St} {H H' : Hp} {te tf tg td ty tk tv : TE} {tr : TA} {tt tu : TT} {w x y z : W} {n m : Nd} {C dx a : Addr} {b : Bool} {P : L2.St → Hp → Prop} {De : Ends} {t u : TS} {E : XK} {ds : List (Key × D)}
theorem Dk.get {v : V} (l : Dk ka w ds b) (e : EnF K B F ro ka ta sg H) (h : WOk K B F v w) : ∃ a xs, v = .ref a ∧ Rd H a (.dK xs) ∧ RpK K (if b then uni B F else F) ds xs := by
  cases l with
  | v =>
    obtain ⟨a, xs, rfl, h1, h2⟩ := h
    exact ⟨a, xs, rfl, e.fz.rd e.nz h1, h2⟩
  | w =>
    obtain ⟨a, xs, rfl, h1, h2⟩ := h
    exact ⟨a, xs, rfl, (uni_exz e.fz e.fr).rd (uni_nz e.nz) h1, h2⟩
  | ce j hj =>
    obtain rfl : v = .ref _ := h
    obtain ⟨_, _, xs, h1, h2⟩ := e.ce _ (List.mem_of_getElem? hj)
    exact ⟨_, xs, rfl, .inl h1, h2⟩
  | cl j hj =>
    obtain rfl : v = .ref _ := h
    obtain ⟨_, _, h1, h2⟩ := e.ce _ (List.mem_of_getElem? hj)
    exact ⟨_, _, rfl, .inr ⟨_, h1⟩, h2⟩
end
end DL

/-! EB: loops and comprehensions over frozen dicts (own work). -/
namespace DL
open PySem L2 PySem.W
section
variable {K : PySem.W.Frag} {B F F0 : Hp} {ro : Ro} {ka k1 k2 k3 kr : Cells} {ta : List (V × W)} {sg : L2.St} {H H' : Hp} {te tf tg tk tv : TE} {tr : TA} {tt tu : TT} {w x y z : W} {n m : Nd} {C dx a : Addr} {b : Bool} {P : L2.St → Hp → Prop} {De : Ends} {t u : TS} {E : XK}
end
end DL

/-! EC: defaults, objects with cells in their fields, more of dicts (own work). -/
namespace DL
open PySem L2 PySem.W

/-! ### defaults -/
/-- the def at f keeps C, its defaults written out; dvs: its defaults -/
def FnD (P : Program) (w : World) (K : PySem.W.Frag) (mg : Str → Option Value) (base : Heap) (k : Nat) (f : Addr) (ps : List Str) (dvs : List V) (C : Ct) : Prop :=
  ∃ fd, FnOk P w K mg base (L2.CX P w) k f fd ps (spC K C) ∧ ∃ ds, Vals dvs ds ∧ Binds K fd ps ds
section
variable {P : Program} {w : World} {K : PySem.W.Frag} {mg : Str → Option Value} {base : Heap} {k j : Nat} {f : Addr} {ps : List Str} {dvs : List V} {C : Ct}
noncomputable def FnD.fd (F : FnD P w K mg base k f ps dvs C) : FuncData := Classical.choose F
theorem FnD.ok (F : FnD P w K mg base k f ps dvs C) : FnOk P w K mg base (L2.CX P w) k f F.fd ps (spC K C) := (Classical.choose_spec F).1
noncomputable def FnD.ds (F : FnD P w K mg base k f ps dvs C) : List Value := Classical.choose (Classical.choose_spec F).2
theorem FnD.bn (F : FnD P w K mg base k f ps dvs C) : Binds K F.fd ps F.ds := (Classical.choose_spec (Classical.choose_spec F).2).2
theorem FnD.up (F : FnD P w K mg base j f ps dvs C) (h : j ≤ k) : FnD P w K mg base k f ps dvs C := let ⟨fd, a, b⟩ := F; ⟨fd, a.mono h, b⟩
end
/-- what stands for the defaults -/
def DvOk (K : PySem.W.Frag) (dvs : List V) (wd : List W) : Prop := dvs.length = wd.length ∧ ∀ B F p, p ∈ dvs.zip wd → WOk K B F p.1 p.2
section
variable {K : PySem.W.Frag} {B B' F F' F0 : Hp} {ro ro' : Ro} {ka k1 k2 k3 kr : Cells} {ta : List (V × W)} {sg sg' : L2.St} {H H' : Hp} {te tf tg td ty tk tv : TE} {tr : TA} {tt tu : TT} {w x y z : W} {n m : Nd} {C dx a o d : Addr} {b : Bool} {P : W → Cells → Prop} {De : Ends} {u : TS}
theorem En.more (e : En K B F0 ro ka ta sg H) {dvs : List V} {wd : List W} (h : DvOk K dvs wd) : En K B F0 ro ka (dvs.zip wd ++ ta) sg H := by
  obtain ⟨F, g, e⟩ := e
  refine ⟨F, g, { e with tm := fun p hp => ?_ }⟩
  rcases List.mem_append.mp hp with q | q
  · exact h.2 B F p q
  · exact e.tm p q
end

section
variable {K : PySem.W.Frag} {B B' F F' F0 : Hp} {ro ro' : Ro} {ka k1 k2 k3 kr : Cells} {ta : List (V × W)} {sg sg' : L2.St} {H H' : Hp} {te tf tg td ty tk tv : TE} {tr : TA} {tt tu : TT} {w x y z : W} {n m : Nd} {C dx a o d : Addr} {b : Bool} {P : L2.St → Hp → Prop} {De : Ends} {u : TS}
end
end DL
namespace DL
open PySem L2 PySem.W
section
variable {P : Program} {w : World} {K : PySem.W.Frag} {mg : Str → Option Value} {base : Heap} {f : Addr} {fd : FuncData} {x qual : Str} {params : Arguments} {body : List Stmt} {scope : Scope} {ps N : List Str} {k j : Nat} {C : Ct} {dvs : List V}
end
end DL
namespace DL
open PySem L2 PySem.W
theorem hu1 {k : Nat} {A : Around} (r : Room k A) : A.units + 1 < cLine := by have := r.units; omega
end DL

namespace DL
open PySem L2 PySem.W
section
variable {K : PySem.W.Frag} {B F F0 : Hp} {ro : Ro} {ka k1 k2 : Cells} {ta : List (V × W)} {sg : L2.St} {H : Hp} {te tf : TE} {w : W} {n : Nd}
/-! ### is None -/
def isNonD : D → Bool
  | .non => true
  | _ => false
theorem EvNR.toR {R : Nd → Cells → Prop} (h : EvNR K te ro ka R) : EvR K te ro ka (fun w k => ∃ a n k0, w = .val (.adr a) ∧ R n k0 ∧ k = k0 ++ [(a, n)]) := fun B F0 ta sg H Q e q =>
  h B F0 ta sg H Q e fun n k a H' r e1 => q _ _ (.ref a) H' ⟨a, n, k, rfl, r, rfl⟩ (e1.push_imm fun _ => rfl)
end
end DL

namespace DL
open PySem L2 PySem.W
end DL
namespace DL
open PySem L2 PySem.W
section
variable {K : PySem.W.Frag} {ro : Ro} {ka k1 k2 k3 : Cells} {te : TE} {tr : TA} {w : W} {E : XK}
end
end DL
namespace DL
open PySem L2 PySem.W
/-! ### tables with text keys -/
section
variable {β : Type} {f : β → D}
end
end DL
namespace DL
open PySem L2 PySem.W
section
variable {K : PySem.W.Frag} {ro : Ro} {ka k1 : Cells} {te tf : TE} {P : W → Cells → Prop} {R : Nd → Cells → Prop}
end
end DL
namespace DL
open PySem L2 PySem.W
section
variable {K : PySem.W.Frag} {B F0 : Hp} {ro : Ro} {ka k1 : Cells} {ta : List (V × W)} {te : TE} {w : W} {b : Bool} {R : Nd → Cells → Prop} {De : Ends} {u : TS}
end
end DL
namespace DL
open PySem L2 PySem.W
section
variable {K : PySem.W.Frag} {ro : Ro} {ka k1 k2 : Cells} {ty td : TE} {P : W → Cells → Prop}
end
end DL
namespace DL
open PySem L2 PySem.W
section
variable {K : PySem.W.Frag} {ro : Ro} {ka k1 : Cells} {te tf : TE} {n : Nd} {y : W} {E : XK}
end
end DL

/-! ED: d.get(k) (own work). -/
namespace DL
open PySem L2 PySem.W
section
variable {K : PySem.W.Frag} {ro : Ro} {ka k1 k2 : Cells} {td ty : TE} {w : W} {b : Bool}
end
end DL

/-! EE: try with any number of except clauses, each with or without a name (own work). -/
namespace DL
open PySem L2 PySem.W PyProof.Rows

/-- the exception at a has come down in X; but for it the state is as σ, H tell -/
def Down (X : Cx) (pins : List (Addr × Obj)) (a : Addr) (cls : Value) (d : Option Addr) (σ : L2.St) (H : Hp) (s : Shared) : Prop :=
  ∃ (B : Heap) (s0 : Shared), L2.Inv X pins σ H s0 ∧ (∀ b o, s0.heap.get? b = some o → b ∉ frs X.stack → B.get? b = some o) ∧ s0.heap.UpToSlots s.heap ∧
    HandSPX.FlyingZ B (X.env :: X.outer) a (Zc cls d) s.heap ∧ H a = none ∧ s.os = s0.os ∧ AllBare s.gens
section
variable {X : Cx} {pins : List (Addr × Obj)} {a : Addr} {cls : Value} {d : Option Addr} {σ : L2.St} {H : Hp} {s : Shared}
theorem Down.inv (z : Down X pins a cls d σ H s) : L2.Inv X pins σ H s :=
  let ⟨_, _, I, nb, up, fl, _, os, ag⟩ := z
  I.landed nb fl.1 up os ag
theorem Down.obj (z : Down X pins a cls d σ H s) : ∃ (oe : Obj) (vs : Array Value), s.heap.get? a = some oe ∧ Zc cls d oe ∧ oe.data = .fields vs :=
  let ⟨_, _, _, _, _, fl, _⟩ := z
  let ⟨oe, vs, h1, h2, h3⟩ := fl.there
  ⟨oe, vs, h1, h2, h3⟩
/-- no frame's slots stand there -/
theorem Down.off (z : Down X pins a cls d σ H s) : a ∉ frs (X.env :: X.outer) := fun hm => by
  obtain ⟨oe, vs, h1, _, h3⟩ := z.obj
  obtain ⟨_, _, _, _, _, fl, _⟩ := z
  obtain ⟨_, o, h4, h5⟩ := fl.2.2.1.mem hm
  rw [h1] at h4
  cases h4
  exact h5 _ h3
/-- the state that an except suite finds -/
theorem Down.within (z : Down X pins a cls d σ H s) (hf : X.env.frame = some X.env.locals) : ∃ oe vs, oe.data = .fields vs ∧ Zc cls d oe ∧ s.heap.get? a = some oe ∧ L2.Inv (X.suite a ((a, oe) :: (X.pn ++ pins))) [] σ H s := by
  obtain ⟨oe, vs, h1, h2, h3⟩ := z.obj
  have off := z.off
  have na : H a = none := let ⟨_, _, _, _, _, _, na, _⟩ := z; na
  refine ⟨oe, vs, h3, h2, h1, z.inv.suite h1 h3 na (fun e => off ?_) fun hm => off ?_⟩
  · exact List.mem_filterMap.mpr ⟨X.env, List.mem_cons_self, by rw [hf, e]⟩
  · obtain ⟨e, he, q⟩ := List.mem_filterMap.mp hm
    exact List.mem_filterMap.mpr ⟨e, List.mem_cons_of_mem _ he, q⟩
theorem Down.again {M : Model} {A : Around} {E : Value → Shared → Prop} {Q : Unit → Shared → Prop} (z : Down X pins a cls d σ H s) (k : ∀ s', Down X pins a cls d σ H s' → Q () s') : wpAny M A (setFlight (.ref a) none) Q E s := by
  obtain ⟨B, s0, I, nb, up, fl, na, os, ag⟩ := z
  exact HandSPX.lands_againZ fl fun h' fl' up' => k _ ⟨B, s0, I, nb, up.trans up', fl', na, os, ag⟩
/-- no clause takes it -/
theorem Down.pass {W : WX} {Q : Flow → Shared → Prop} (z : Down X pins a cls d σ H s) (hs : X.stack = X.env :: X.outer) (hf : X.env.frame = some X.env.locals) (tk : Takes X W) (w : W cls d σ H) : wpAny (model X.prog X.w) X.A (handleBy (.ref a) X.env []) Q X.xe s := by
  obtain ⟨B, s0, I, nb, up, fl, na, os, ag⟩ := z
  obtain ⟨oe, vs, T, oT, ts, h1, h2, h3, h4, _⟩ := id fl.2.2.2
  have out : wpAny (model X.prog X.w) X.A (setFlight (.ref a) X.env.frame) (fun _ s4 => wpAny (model X.prog X.w) X.A (throw (.ref a) : Sem Flow) Q X.xe s4) X.xe s := by
    rw [hf]
    exact HandSPX.setFlight_upZ fl fun h' held up' => wpAny_throw (tk _ _ ⟨a, B, s0, pins, σ, H, cls, d, rfl, I, nb, up.trans up', .inr (.inr (hs ▸ held)), na, os, ag, w⟩)
  apply wpAny_handleBy_nil
  unfold PySem.passOn
  refine wpAny_bind (wpAny_field h1 h3 h4 ?_)
  have ne : ¬ (Value.ref T == Value.none) = true := by simp
  rw [if_neg ne]
  first
    | exact wpAny_bind (wpAny_pure (wpAny_bind out))
    | exact wpAny_bind out
end
/-- a clause: its class, the slot of its name, its suite -/
abbrev Cla := Value × Option Nat × (Addr → Value → Option Addr → TS)
/-- where a suite ends: its name is gone -/
def goneE (D : Ends) : Option Nat → Ends
  | none => D
  | some i => { nx := fun σ H => D.nx (σ.set i none) H, rt := D.rt, bk := fun σ H => D.bk (σ.set i none) H, ct := fun σ H => D.ct (σ.set i none) H }
def nameS (σ : L2.St) (a : Addr) : Option Nat → L2.St
  | none => σ
  | some i => σ.set i (some (.ref a))
/-- what one clause wishes: that its class tells whether it takes the exception; if so its suite's wish, else W -/
def oneCla (K : PySem.W.Frag) (D : Ends) (c : Cla) (W : WX) : WX := fun cls d σ H =>
  (exmOne K cls c.1 = some true ∧ ∀ a, H a = none → c.2.2 a cls d (goneE D c.2.1) (nameS σ a c.2.1) H) ∨ (exmOne K cls c.1 = some false ∧ W cls d σ H)
/-- these clauses deal with whatever W lets come down -/
def Deals (X : Cx) (D : Ends) (hds : List ExceptHandler) (W : WX) : Prop := ∀ (pins : List (Addr × Obj)) (a : Addr) (cls : Value) (d : Option Addr) (σ : L2.St) (H : Hp) (s : Shared),
  Down X pins a cls d σ H s → W cls d σ H → wpAny (model X.prog X.w) X.A (handleBy (.ref a) X.env hds) (SP X pins D) X.xe s
/-- a suite keeps its wish -/
def SuiteOk (X : Cx) (b0 : Stmt) (suite : List Stmt) (ts : Addr → Value → Option Addr → TS) : Prop :=
  ∀ (a : Addr) (oe : Obj) (cls : Value) (d : Option Addr) (pn : List (Addr × Obj)), Zc cls d oe → (∃ vs, oe.data = .fields vs) → PSs (X.suite a ((a, oe) :: pn)) (b0 :: suite) (ts a cls d)
section
variable {X : Cx} {pins : List (Addr × Obj)} {a : Addr} {cls : Value} {d : Option Addr} {σ : L2.St} {H : Hp} {s : Shared} {D : Ends} {Wout W : WX} {f : Flow}
theorem Deals.nil (hs : X.stack = X.env :: X.outer) (hf : X.env.frame = some X.env.locals) (tk : Takes X Wout) : Deals X D [] Wout := fun _ _ _ _ _ _ _ z w => z.pass hs hf tk w
/-- the end of a suite without a name, seen from outside -/
theorem SP.outward {q0 : List (Addr × Obj)} {X' : Cx} (e : SP X' q0 D f s) (k : ∀ σ1 H1, L2.Inv X' q0 σ1 H1 s → L2.Inv X pins σ1 H1 s) : SP X pins D f s := by
  rcases f with _ | _ | _ | u
  · obtain ⟨σ1, H1, J, y⟩ := e
    exact ⟨σ1, H1, k _ _ J, y⟩
  · obtain ⟨σ1, H1, J, y⟩ := e
    exact ⟨σ1, H1, k _ _ J, y⟩
  · obtain ⟨σ1, H1, J, y⟩ := e
    exact ⟨σ1, H1, k _ _ J, y⟩
  · obtain ⟨v, σ1, H1, J, y⟩ := e
    exact ⟨v, σ1, H1, k _ _ J, y⟩
/-- a clause's class, looked up where the suite will stand -/
theorem Down.class_read (z : Down X pins a cls d σ H s) (hf : X.env.frame = some X.env.locals) {x : Str} {c : Value} {p : Pos} (hc : Names X x c) {Q : Value → Shared → Prop} {E : Value → Shared → Prop} (k : Q c s) :
    wpAny (model X.prog X.w) (X.A.mark (some (.ref a))) (eval (.Name x p) X.env) Q E s := by
  obtain ⟨oe, vs, _, _, _, S⟩ := z.within hf
  obtain ⟨g, nd, m | ⟨m, v, nn⟩⟩ := hc
  · exact ld_glob (X := X.suite a ((a, oe) :: (X.pn ++ pins))) S g m k nd
  · exact ld_blt (X := X.suite a ((a, oe) :: (X.pn ++ pins))) S g m v k nn nd
/-- does the class at c take it? -/
theorem Down.asked (z : Down X pins a cls d σ H s) {c : Value} {b : Bool} (h : exmOne X.K cls c = some b) : PySem.W.Looks (model X.prog X.w) s.heap (excMatches (.ref a) c) b :=
  PySem.W.exm_one z.inv.kIn (fun A Q E s' kp q => by
    obtain ⟨oe, vs, at_, zc, _⟩ := z.obj
    exact wpAny_typeOf_ref (kp _ _ at_) (zc.1.symm ▸ q)) h
theorem Deals.plain (hf : X.env.frame = some X.env.locals) {x : Str} {c : Value} {ts : Addr → Value → Option Addr → TS} {b0 : Stmt} {suite : List Stmt} {p q : Pos} {hds : List ExceptHandler} (hc : Names X x c) (ok : SuiteOk X b0 suite ts) (rest : Deals X D hds W) :
    Deals X D (.ExceptHandler (some (.Name x p)) none (b0 :: suite) q :: hds) (oneCla X.K D (c, none, ts) W) := fun pins a cls d σ H s z w => by
  refine wpAny_handleBy_cons (codeAny_handlers_test (z.class_read hf hc ?_)) (fun e => by cases e)
  rcases w with ⟨hb, w⟩ | ⟨hb, w⟩ <;> refine (z.asked hb).here ?_
  · refine codeAny_handlers_suite (z.again fun s1 z1 => ?_)
    obtain ⟨oe, vs, dat, zc, _, S⟩ := z1.within hf
    have na : H a = none := z.elim fun _ r => r.elim fun _ r => r.2.2.2.2.1
    exact wpAny_mono ((ok a oe cls d (X.pn ++ pins) zc ⟨_, dat⟩).run [] s1 σ H D S (w a na)) (fun g s2 e => SP.outward e fun _ _ J => J.unsuite z.inv.ok) fun _ _ z => z.elim
  · exact rest pins a cls d σ H s z w
end
section
variable {X : Cx} {body : List Stmt} {h0 : ExceptHandler} {hds : List ExceptHandler} {l : List Cla} {pos : Pos} {tb : WX → TS} {Wout : WX}
end
end DL

/-! EF: what several clauses do with an exception, by data (own work). -/
namespace DL
open PySem L2 PySem.W
/-- of the clauses l the one with oi, ts takes an exception of C1 -/
inductive Hit (K : PySem.W.Frag) (C1 : Addr) : List Cla → Option Nat → (Addr → Value → Option Addr → TS) → Prop
  | here {c : Value} {oi : Option Nat} {ts : Addr → Value → Option Addr → TS} {r : List Cla} (h : exmOne K (.ref C1) c = some true) : Hit K C1 ((c, oi, ts) :: r) oi ts
  | next {c : Value} {oi oj : Option Nat} {ts us : Addr → Value → Option Addr → TS} {r : List Cla} (h : exmOne K (.ref C1) c = some false) (k : Hit K C1 r oi ts) : Hit K C1 ((c, oj, us) :: r) oi ts
section
variable {K : PySem.W.Frag} {B F0 : Hp} {ro : Ro} {ka k1 k2 k3 kr : Cells} {ta : List (V × W)} {sg : L2.St} {H : Hp} {te tf : TE} {tr : TA} {C C1 : Addr} {gs : List (Str × D)} {E : XK} {De De' : Ends} {dx : Option Addr} {l : List Cla} {oi : Option Nat} {ts : Addr → Value → Option Addr → TS} {Wout : WX} {u : TS}
end
end DL

/-! EG: enumerate of lists (own work). -/
namespace DL
open PySem L2 PySem.W
section
variable {K : PySem.W.Frag} {ro : Ro} {ka k1 : Cells} {te : TE} {w : W}
theorem ei_enum {ds : List D} (h : EvD K te ro ka w k1) (l : Lk k1 w false ds false) : EvI K (iEnum K (tCons te tNil)) ro ka ((List.range ds.length).map fun i : Nat => W.val (.tup [.int (i : Int), ds.getD i .non])) (Stay w ds) k1 := fun B F0 ta sg H R e q =>
  h B F0 ta sg H _ e fun v H1 e1 => by
    have again : ∀ (a : Addr) ro2 ka2 ta2 sg2 H2, Stay w ds ka2 → (V.ref a, w) ∈ ta2 → En K B F0 ro2 ka2 ta2 sg2 H2 → ∃ F ys, EnF K B F ro2 ka2 ta2 sg2 H2 ∧ Gr B F0 F ∧ SqL K H2 a ys ∧ RpL K F ds ys := fun a ro2 ka2 ta2 sg2 H2 hs hm e2 => by
      obtain ⟨F, g, ef⟩ := e2
      obtain ⟨b, ys, eb, s2, r2⟩ := (l.mono ka2 hs).get ef (ef.tm _ hm)
      cases eb
      exact ⟨F, ys, ef, g, .inl s2, r2⟩
    obtain ⟨F, g, ef⟩ := id e1
    obtain ⟨a, xs, rfl, s1, r1⟩ := l.get ef (ef.tm _ List.mem_cons_self)
    refine ⟨a, xs, rfl, .inl s1, q _ ((.ref a, w) :: ta) H1 (fun p hp => List.mem_cons_of_mem _ hp) e1 (fun i w2 ro2 ka2 ta2 sg2 H2 hw hs hm e2 => ?_) fun i ro2 ka2 ta2 sg2 H2 hi hs hm e2 => ?_⟩
    · obtain ⟨F2, ys, ef2, g2, s2, r2⟩ := again a ro2 ka2 ta2 sg2 H2 hs (hm _ List.mem_cons_self) e2
      rw [List.getElem?_map] at hw
      obtain ⟨i', hi', rfl⟩ := Option.map_eq_some_iff.mp hw
      obtain ⟨hi1, hi2⟩ := List.getElem?_eq_some_iff.mp hi'
      rw [List.getElem_range] at hi2
      subst hi2
      rw [List.length_range] at hi1
      have hd : ds[i]? = some ds[i] := List.getElem?_eq_getElem hi1
      have hg : ds.getD i .non = ds[i] := by rw [List.getD_eq_getElem?_getD, hd]; rfl
      obtain ⟨y, hy, ry⟩ := rpl_get r2 hd
      refine ⟨⟨ys, y, s2, hy⟩, fun x H3 ⟨T, x', ex, hT, eH, hx⟩ => ?_⟩
      subst ex eH
      have h5 := hx ys s2
      rw [hy] at h5
      cases h5
      obtain ⟨e4, g4⟩ := ef2.lay (o := .tup [.int (i : Nat), y]) hT rfl
      refine ⟨_, g2.trans g4, e4.push ⟨T, _, rfl, .inl (.inl upd_same), ?_⟩⟩
      rw [hg]
      exact ⟨_, _, rfl, rfl, y, [], rfl, Rp.mono g4.sub.exz ef2.nz _ _ ry, rfl⟩
    · obtain ⟨F2, ys, ef2, g2, s2, r2⟩ := again a ro2 ka2 ta2 sg2 H2 hs (hm _ List.mem_cons_self) e2
      rw [List.length_map, List.length_range] at hi
      exact ⟨ys, s2, by rw [rpl_len r2]; exact hi⟩
end
end DL

namespace DL
open PySem L2 PySem.W
end DL

/-! EH: for loops of the hand layer out of the library's Goes: what an iterator hands out, told once, serves every caller (own work). -/
namespace DL
open PySem L2 PySem.W PyProof.Rows
end DL

/-! EI: nothing of its own (kept for the order of the parts). -/

/-! EJ: for i, x in enumerate(t), t a tuple: the library's GoesN over its Draws.tuple, told for the hand layer (own work). -/
namespace DL
open PySem L2 PySem.W PyProof.Rows
/-- what stands at turn i: the count, the iterator; the three lie apart -/
structure EnT (a e it : Addr) (i : Nat) (h : Heap) : Prop where
  en : ∃ old, IsEnum h e it (0 + (i : Int)) old
  itr : h.IsTupleIter it a i
  apart : e ≠ it ∧ a ≠ it ∧ a ≠ e
namespace EnT
variable {a e it : Addr} {i : Nat} {h : Heap}
theorem cells (z : EnT a e it i h) : ∀ b ∈ [e, it], ∃ o, h.get? b = some o ∧ ∀ v, o.data ≠ .cell v := by
  obtain ⟨⟨_, x⟩, ⟨o, y, _, d⟩, _⟩ := z
  simp only [List.forall_mem_cons, List.not_mem_nil, false_imp_iff, implies_true, and_true]
  exact ⟨⟨_, x, fun _ c => nomatch c⟩, o, y, fun _ c => nomatch d.symm.trans c⟩
theorem le (z : EnT a e it i h) {b T : Addr} (hb : b ∈ [e, it]) (hT : h.objs.size ≤ T) : b ≠ T := fun q =>
  let ⟨_, y, _⟩ := z.cells b hb
  Nat.lt_irrefl _ (Nat.lt_of_lt_of_le (q ▸ Heap.lt_size y) hT)
theorem out (z : EnT a e it i h) : e ∉ [it, a] := by
  have := z.apart
  simp only [List.mem_cons, List.not_mem_nil, or_false, not_or]
  exact ⟨this.1, this.2.2.symm⟩
end EnT
end DL

/-! EK: enumerate of lists and tuples alike (own work). -/
namespace DL
open PySem L2 PySem.W
section
variable {K : PySem.W.Frag} {ro : Ro} {ka k1 : Cells} {te : TE} {w : W}
end
end DL
namespace DL
open PySem L2 PySem.W
section
variable {K : PySem.W.Frag} {B F0 : Hp} {ro : Ro} {ka : Cells} {ta : List (V × W)} {De : Ends} {t u : TS}
theorem Gp.up {ta' : List (V × W)} {P : L2.St → Hp → Prop} (h : Gp K B F0 ta P ro ka) (s : ∀ p ∈ ta, p ∈ ta') : Gp K B F0 ta' P ro ka := fun sg H e => h sg H (e.held s)
end
section
variable {X : Cx}
end
/-- w holds the texts ys: a list or tuple of them, or a dict with these keys -/
inductive HasS (ka : Cells) : W → List Str → Prop where
  | sq {w : W} {t b : Bool} {ys : List Str} (l : Lk ka w t (stD ys) b) : HasS ka w ys
  | dc {w : W} {ds : List (Key × D)} {b : Bool} {ys : List Str} (l : Dk ka w ds b) (h : ∀ s, (getT ds (.inr s)).isSome = decide (s ∈ ys)) : HasS ka w ys
section
variable {K : PySem.W.Frag} {ro : Ro} {ka k1 k2 : Cells} {te tf : TE} {y : W}
end
end DL

/-! EL: cells frozen for the length of one expression, then cells again (own work). -/
namespace DL
open PySem L2 PySem.W
/-! ### data that reads no cell: numbers, texts, tuples of these -/
mutual
def tI : D → Bool
  | .lst _ => false | .dic _ => false | .dit _ => false | .ins _ _ => false | .din _ _ => false | .exc _ _ => false
  | .tup xs => tIL xs
  | _ => true
def tIL : List D → Bool
  | [] => true
  | d :: ds => tI d && tIL ds
end
section
variable {K : PySem.W.Frag} {B B' F F' F0 H H' : Hp} {ro ro' : Ro} {ka k1 k2 k3 kr kt : Cells} {ta tb : List (V × W)} {sg sg' : L2.St} {te tf : TE} {tt : TT} {w x y : W} {n : Nd} {a : Addr} {C : Addr}
/-- the heap F with the cells kt of H put in -/
def thF (F H : Hp) (kt : Cells) : Hp := fun a => if a ∈ kt.map (·.1) then H a else F a
theorem thF_out {a : Addr} (h : a ∉ kt.map (·.1)) : thF F H kt a = F a := if_neg h
theorem thF_sub (h : ∀ p ∈ kt, F p.1 = none) : Sub F (thF F H kt) := fun a o e => by
  rw [thF_out fun m => ?_]
  · exact e
  · obtain ⟨p, hp, rfl⟩ := List.mem_map.mp m
    rw [h p hp] at e
    cases e
/-- cells of the three kinds -/
def ndK : Nd → Bool
  | .lst _ => true | .dic _ => true | .ins _ _ => true | .din _ _ => true
  | _ => false
/-- what is known of cells that are put in -/
structure Thw (K : PySem.W.Frag) (F H : Hp) (kt : Cells) : Prop where
  no : ∀ p ∈ kt, F p.1 = none
  ok : ∀ p ∈ kt, NdOk K F H p.1 p.2
  kd : ∀ p ∈ kt, ndK p.2 = true
theorem Thw.gr (t : Thw K F H kt) (hB : ∀ p ∈ kt, B p.1 = none) : Gr B F (thF F H kt) := ⟨thF_sub t.no, fun a h1 h2 => by
  rw [thF_out fun m => ?_]
  · exact h1
  · obtain ⟨p, hp, rfl⟩ := List.mem_map.mp m
    exact h2 (hB p hp)⟩
theorem EnF.apart (e : EnF K B F ro (k1 ++ kt) ta sg H) {p : Addr × Nd} (hp : p ∈ k1) : p.1 ∉ kt.map (·.1) := fun m => by
  have nd := e.nd
  rw [List.map_append, List.nodup_append] at nd
  exact nd.2.2 p.1 (List.mem_map.mpr ⟨p, hp, rfl⟩) p.1 m rfl
/-! ### data that reads no cell stays without the cells -/
section
variable (no : ∀ b ∈ kt.map (·.1), ∃ o, F' b = some o ∧ isfz o = false ∧ ∀ xs, o ≠ .tup xs)
include no
theorem sqt_off {b : Addr} {xs : List V} (h : SqT K F' b xs) : SqT K (off F' kt) b xs := by
  rcases h with h | h
  · have m : b ∉ kt.map (·.1) := fun m => by
      obtain ⟨o, h1, h2, h3⟩ := no b m
      rcases h with h | ⟨z, h⟩
      · rw [h1] at h
        exact h3 _ (Option.some.inj h)
      · rw [h1] at h
        cases h
        cases h2
    exact .inl (h.elim (fun q => .inl (by rw [off_out m]; exact q)) fun ⟨z, q⟩ => .inr ⟨z, by rw [off_out m]; exact q⟩)
  · exact .inr h
mutual
theorem rp_off : ∀ (d : D) (v : V), tI d = true → Rp K F' d v → Rp K (off F' kt) d v
  | .non, v, _, h => h
  | .bl _, v, _, h => h
  | .int _, v, _, h => h
  | .str _, v, _, h => h
  | .ty _, v, _, h => h
  | .adr _, v, _, h => h
  | .tup ds, v, t, h => by
    obtain ⟨b, xs, e, h1, h2⟩ := h
    exact ⟨b, xs, e, sqt_off no h1, rpl_off ds xs t h2⟩
  | .exc _ _, _, t, _ => by cases t
theorem rpl_off : ∀ (ds : List D) (xs : List V), tIL ds = true → RpL K F' ds xs → RpL K (off F' kt) ds xs
  | [], xs, _, h => h
  | d :: ds, xs, t, h => by
    obtain ⟨x, ys, e, h1, h2⟩ := h
    rw [tIL, Bool.and_eq_true] at t
    exact ⟨x, ys, e, rp_off d x t.1 h1, rpl_off ds ys t.2 h2⟩
end
end
end
/-! ### what a cell stands for -/
/-- the cell at a, with what stands behind it among kt, is the data d -/
def FrzD (K : PySem.W.Frag) (kt : Cells) (a : Addr) (d : D) : Prop := ∀ F H, Nz F → Thw K F H kt → Rp K (thF F H kt) d (.ref a)
/-- the same, or a cell and what it stands for -/
inductive FzR (K : PySem.W.Frag) (kt : Cells) : D → D → Prop where
  | s (d : D) : FzR K kt d d
  | a {a : Addr} {d : D} (h : FrzD K kt a d) : FzR K kt (.adr a) d
section
variable {K : PySem.W.Frag} {F H : Hp} {kt : Cells} {a : Addr} {C : Addr}
theorem FzR.rp {d e : D} {v : V} (z : FzR K kt d e) (nz : Nz F) (t : Thw K F H kt) (h : Rp K F d v) : Rp K (thF F H kt) e v := by
  cases z with
  | s => exact Rp.mono (thF_sub t.no).exz nz _ _ h
  | a q =>
    obtain rfl : v = _ := h
    exact q F H nz t
def FzL (K : PySem.W.Frag) (kt : Cells) : List D → List D → Prop
  | [], es => es = []
  | d :: ds, es => ∃ e r, es = e :: r ∧ FzR K kt d e ∧ FzL K kt ds r
theorem FzL.same : ∀ ds : List D, FzL K kt ds ds
  | [] => rfl
  | d :: ds => ⟨d, ds, rfl, .s d, FzL.same ds⟩
theorem FzL.rp (nz : Nz F) (t : Thw K F H kt) : ∀ {ds es : List D} {xs : List V}, FzL K kt ds es → RpL K F ds xs → RpL K (thF F H kt) es xs
  | [], es, xs, z, h => by
    obtain rfl : es = [] := z
    exact h
  | d :: ds, es, xs, ⟨e, r, e1, z1, z2⟩, ⟨x, ys, e2, h1, h2⟩ => by
    subst e1
    exact ⟨x, ys, e2, z1.rp nz t h1, FzL.rp nz t z2 h2⟩
def FzF (K : PySem.W.Frag) (kt : Cells) : List (Str × D) → List (Str × D) → Prop
  | [], es => es = []
  | (k, d) :: ds, es => ∃ e r, es = (k, e) :: r ∧ FzR K kt d e ∧ FzF K kt ds r
theorem FzF.rp (nz : Nz F) (t : Thw K F H kt) : ∀ {ds es : List (Str × D)} {xs : List (Str × V)}, FzF K kt ds es → RpF K F ds xs → RpF K (thF F H kt) es xs
  | [], es, xs, z, h => by
    obtain rfl : es = [] := z
    exact h
  | (k, d) :: ds, es, xs, ⟨e, r, e1, z1, z2⟩, ⟨x, ys, e2, h1, h2⟩ => by
    subst e1
    exact ⟨x, ys, e2, z1.rp nz t h1, FzF.rp nz t z2 h2⟩
end
/-- the slots ro' are those of ro, but for cells that are told as what they stand for -/
structure RoT (K : PySem.W.Frag) (kt : Cells) (ro ro' : Ro) : Prop where
  len : ro'.length = ro.length
  at' : ∀ (i : Nat) (w : W), ro'[i]? = some (some w) → ro[i]? = some (some w) ∨ ∃ (a : Addr) (d : D), w = W.val d ∧ ro[i]? = some (some (W.val (.adr a))) ∧ FrzD K kt a d
section
variable {K : PySem.W.Frag} {B F F0 H H' : Hp} {ro ro' : Ro} {ka k1 k2 k3 kr kt : Cells} {ta tb : List (V × W)} {sg sg' : L2.St} {te tf : TE} {tt : TT} {w x y : W} {n : Nd} {a : Addr} {d : D}
theorem RoT.refl : RoT K kt ro ro := ⟨rfl, fun _ _ h => .inl h⟩
theorem RoT.set {i : Nat} (r : RoT K kt ro ro') (hi : ro[i]? = some (some (.val (.adr a)))) (z : FrzD K kt a d) : RoT K kt ro (ro'.set i (some (.val d))) := ⟨by rw [List.length_set]; exact r.len, fun j w h => by
  rw [List.getElem?_set] at h
  split at h
  · rename_i e
    subst e
    split at h
    · cases h
      exact .inr ⟨a, d, rfl, hi, z⟩
    · cases h
  · exact r.at' j w h⟩
end
end DL

/-! EM: in and bool by an own class's methods; d.pop(k) (own work). -/
namespace DL
open PySem PySem.Spec PyProof.Rows L2 PySem.W
section
variable {X : Cx} {CX : CXT} {k : Nat} {C f : Addr} {fd : FuncData} {ps : List Str} {sp : Sp} {E : XK}
end
end DL
namespace DL
open PySem L2 PySem.W
section
variable {X : Cx} {k : Nat} {C f : Addr} {ps : List Str} {E : XK} {Ct' : Ct}
end
section
variable {K : PySem.W.Frag} {B F0 : Hp} {ro : Ro} {ka k1 k2 kr : Cells} {ta : List (V × W)} {te tf td ty : TE} {x y : W} {C a : Addr} {fs : List (Str × D)} {b : Bool} {E : XK} {De : Ends} {u : TS}
end
end DL
namespace DL
open PySem L2 PySem.W
/-- a def with defaults, called without them or with all -/
def FnE (P : Program) (w : World) (K : PySem.W.Frag) (mg : Str → Option Value) (base : Heap) (k : Nat) (f : Addr) (ps : List Str) (dvs : List V) (C : Ct) : Prop :=
  ∃ fd, FnOk P w K mg base (L2.CX P w) k f fd ps (spC K C) ∧ (∃ ds, Vals dvs ds ∧ Binds K fd ps ds) ∧ ∃ ds, Vals [] ds ∧ Binds K fd ps ds
section
variable {P : Program} {w : World} {K : PySem.W.Frag} {mg : Str → Option Value} {base : Heap} {k : Nat} {f : Addr} {ps N : List Str} {dvs : List V} {C : Ct} {x qual : Str} {params : Arguments} {body : List Stmt} {scope : Scope} {fd : FuncData}
theorem FnE.d (F : FnE P w K mg base k f ps dvs C) : FnD P w K mg base k f ps dvs C := let ⟨fd, a, b, _⟩ := F; ⟨fd, a, b⟩
theorem FnE.a (F : FnE P w K mg base k f ps dvs C) : Fn P w K mg base k f ps C := by
  obtain ⟨fd, a, _, ds, v, b⟩ := F
  cases v
  exact ⟨fd, a, b⟩
end
end DL
namespace DL
open PySem L2 PySem.W
/-- an own error that the law never raises: nothing is said of its __init__ -/
def spF : Sp := fun _ _ _ _ => False
structure Xf (P : Program) (w : World) (K : PySem.W.Frag) (mg : Str → Option Value) (base : Heap) (C : Addr) : Prop where
  xc : Xc K C
  ex : ∃ fI fd ps, findIn K (.ref C) "__init__" = some (some (.ref fI)) ∧ typeIn K (.ref fI) = some (.type "function") ∧ FnOk P w K mg base (L2.CX P w) 1 fI fd ps spF ∧ Binds K fd ps []
namespace Xf
variable {P : Program} {w : World} {K : PySem.W.Frag} {mg : Str → Option Value} {base : Heap} {C : Addr}
noncomputable def fI (Z : Xf P w K mg base C) : Addr := Classical.choose Z.ex
noncomputable def fd (Z : Xf P w K mg base C) : FuncData := Classical.choose (Classical.choose_spec Z.ex)
noncomputable def px (Z : Xf P w K mg base C) : List Str := Classical.choose (Classical.choose_spec (Classical.choose_spec Z.ex))
theorem all (Z : Xf P w K mg base C) : findIn K (.ref C) "__init__" = some (some (.ref Z.fI)) ∧ typeIn K (.ref Z.fI) = some (.type "function") ∧ FnOk P w K mg base (L2.CX P w) 1 Z.fI Z.fd Z.px spF ∧ Binds K Z.fd Z.px [] :=
  Classical.choose_spec (Classical.choose_spec (Classical.choose_spec Z.ex))
end Xf
end DL

/-! EN: any cells frozen for good, returns by a word, orders of cells (own work). -/
namespace DL
open PySem L2 PySem.W
section
variable {K : PySem.W.Frag} {B F F0 H : Hp} {ro ro' : Ro} {ka kb k1 k2 k3 kr kt : Cells} {ta : List (V × W)} {sg : L2.St} {te : TE} {tt : TT} {w : W} {n : Nd} {P : L2.St → Hp → Prop} {De : Ends} {b : Bool} {Q : W → Cells → Prop}
/-- a return of which a word tells -/
theorem g_retE {out : Oc} (hr : RtOk K B F0 out De.rt) (h : EvR K te ro ka Q) (o : ∀ w k, Q w k → ∃ d, w = .val d ∧ out (.ret d) k) : Gp K B F0 ta (tRet te De) ro ka := fun sg H e => h B F0 ta sg H _ e fun w k v H' q e' => by
  obtain ⟨d, rfl, ho⟩ := o w k q
  exact hr d k v H' ho e'.leave
theorem EvD.pm (h : EvD K te ro k1 w k2) (s1 : k1.Perm ka) (s2 : k2.Perm kb) : EvD K te ro ka w kb := fun B F0 ta sg H Q e q => h B F0 ta sg H Q (e.perm s1) fun v H' e' => q v H' (e'.perm s2.symm)
theorem EvT.pm (h : EvT K tt ro k1 b k2) (s1 : k1.Perm ka) (s2 : k2.Perm kb) : EvT K tt ro ka b kb := fun B F0 ta sg H Q e q => h B F0 ta sg H Q (e.perm s1) fun H' e' => q H' (e'.perm s2.symm)
theorem EvR.pm (h : EvR K te ro k1 Q) (s1 : k1.Perm ka) : EvR K te ro ka Q := fun B F0 ta sg H Q e q => h B F0 ta sg H Q (e.perm s1) q
theorem EvR.fr {P2 : W → Cells → Prop} (h : EvR K te ro k1 P2) (kr : Cells) (hP : ∀ w k, P2 w k → ∃ d, w = .val d) : EvR K te ro (k1 ++ kr) (fun w k => ∃ k0, P2 w k0 ∧ k = k0 ++ kr) := fun B F0 ta sg H Q e q => by
  obtain ⟨F, g, e⟩ := e
  refine h (off H k1) F [] sg H _ ⟨F, Gr.refl _ _, e.into e.ln (fun i w h => e.sl i w h) (fun p hp => by cases hp)⟩ fun w k v H' p e' => ?_
  obtain ⟨F', g', e'⟩ := e'
  obtain ⟨d, rfl⟩ := hP w k p
  obtain ⟨g2, e2⟩ := e.back g' e' (tb := (v, .val d) :: ta) fun p hp => by
    rcases List.mem_cons.mp hp with rfl | hp
    · exact .inr ⟨d, rfl, List.mem_cons_self⟩
    · exact .inl hp
  exact q _ _ v H' ⟨k, p, rfl⟩ ⟨F', g.trans g2, e2⟩
end
end DL
namespace DL
open PySem L2 PySem.W
section
variable {K : PySem.W.Frag} {ro : Ro} {ka k1 k2 : Cells} {ty td : TE} {P : W → Cells → Prop}
end
end DL
namespace DL
open PySem L2 PySem.W
section
variable {K : PySem.W.Frag} {B F0 : Hp} {ro : Ro} {ka k1 k2 : Cells} {ta : List (V × W)} {tt tu : TT} {De : Ends} {t t' u : TS} {R : Bool → Cells → Prop} {a b : Bool}
end
end DL
namespace DL
open PySem L2 PySem.W
section
variable {K : PySem.W.Frag} {ro : Ro} {ka k1 k2 : Cells} {te : TE} {tr : TA} {C C1 : Addr} {gs : List (Str × D)} {E : XK} {ws : List W} {Cc : Ct}
end
end DL
namespace DL
open PySem L2 PySem.W
section
variable {K : PySem.W.Frag} {ro : Ro} {ka k1 k2 : Cells} {te : TE} {tt : TT} {C : Addr} {fs : List (Str × D)} {b : Bool} {w : W} {E : XK} {Cc : Ct} {P : W → Cells → Prop} {R : Bool → Cells → Prop}
end
end DL


/-! EP: comprehensions over pairs; isinstance of several types (own work). -/
namespace DL
open PySem L2 PySem.W
theorem wipe_get (s : L2.St) : ∀ (vs : List Nat) (i : Nat), (wipe s vs)[i]? = if i ∈ vs ∧ i < s.length then some none else s[i]?
  | [], i => by
    show s[i]? = _
    rw [if_neg fun h => by cases h.1]
  | v :: vs, i => by
    show ((wipe s vs).set v none)[i]? = _
    rw [List.getElem?_set, wipe_get s vs i, wipe_length]
    by_cases hv : v = i
    · subst hv
      by_cases hl : v < s.length
      · rw [if_pos rfl, if_pos hl, if_pos ⟨List.mem_cons_self, hl⟩]
      · rw [if_pos rfl, if_neg hl, if_neg fun h => hl h.2, List.getElem?_eq_none (by omega)]
    · rw [if_neg hv]
      by_cases hm : i ∈ vs ∧ i < s.length
      · rw [if_pos hm, if_pos ⟨List.mem_cons_of_mem _ hm.1, hm.2⟩]
      · rw [if_neg hm, if_neg fun h => hm ⟨(List.mem_cons.mp h.1).resolve_left fun z => hv z.symm, h.2⟩]
theorem wipe_sets {s : L2.St} {vs : List Nat} {j : Nat} (hj : j ∈ vs) (x : Option V) : wipe (s.set j x) vs = wipe s vs := List.ext_getElem? fun i => by
  rw [wipe_get, wipe_get, List.length_set]
  by_cases h : i ∈ vs ∧ i < s.length
  · rw [if_pos h, if_pos h]
  · rw [if_neg h, if_neg h]
    by_cases e : j = i
    · subst e
      have : ¬ j < s.length := fun z => h ⟨hj, z⟩
      rw [List.getElem?_eq_none (by rw [List.length_set]; omega), List.getElem?_eq_none (by omega)]
    · rw [List.getElem?_set_ne e]
theorem wipe_two (s : L2.St) (vs : List Nat) : wipe (wipe s vs) vs = wipe s vs := List.ext_getElem? fun i => by
  rw [wipe_get, wipe_length, wipe_get]
  split <;> rfl
section
variable {K : PySem.W.Frag} {B F F0 : Hp} {ro : Ro} {ka k1 : Cells} {ta : List (V × W)} {sg : L2.St} {H : Hp} {te : TE} {tt : TT} {d1 d2 : D} {j l : Nat}
theorem gpair {σ : L2.St} {x : V} {Q : L2.St → Hp → Prop} (e : EnF K B F ro ka ta sg H) (h : Rp K F (.tup [d1, d2]) x) (q : ∀ v1 v2, Rp K F d1 v1 → Rp K F d2 v2 → Q ((σ.set j (some v1)).set l (some v2)) H) : gTup K 2 (gCons (gName j) (gCons (gName l) gNil)) x σ H Q := by
  obtain ⟨a, xs, rfl, h1, h2⟩ := h
  obtain ⟨v1, r, rfl, r1, v2, r', rfl, r2, rfl⟩ := h2
  exact ⟨a, _, rfl, sqT_mono e.fz e.nz h1, rfl, v1, [v2], rfl, v2, [], rfl, rfl, q v1 v2 r1 r2⟩
/-- [e for x, y in .. if ..]: what is told of the list -/
theorem evr_lcP {wi : TI} {ps : List (D × D)} {C : Cells → Prop} {vs : List Nat} (h : EvI K wi ro ka (ps.map fun p => W.val (.tup [p.1, p.2])) C k1) (hj : j ∈ vs) (hl : l ∈ vs) (hn : ps.length ≤ 1000000) (Inv : Nat → List D → Cells → Prop) (h0 : Inv 0 [] k1) (hC : ∀ i acc k, Inv i acc k → C k ∧ ∀ x, C (k ++ [x]))
    (hs : ∀ i p acc k, ps[i]? = some p → Inv i acc k → (∃ k2, EvT K tt (((wipeR ro vs).set j (some (.val p.1))).set l (some (.val p.2))) k false k2 ∧ Inv (i + 1) acc k2) ∨ ∃ k2 k3 d, EvT K tt (((wipeR ro vs).set j (some (.val p.1))).set l (some (.val p.2))) k true k2 ∧ EvD K te (((wipeR ro vs).set j (some (.val p.1))).set l (some (.val p.2))) k2 (.val d) k3 ∧ Inv (i + 1) (acc ++ [d]) k3)
    : EvNR K (tLc wi (gTup K 2 (gCons (gName j) (gCons (gName l) gNil))) tt te vs) ro ka (fun n k => ∃ acc, n = .lst acc ∧ Inv ps.length acc k) := fun B F0 ta sg H Q e q =>
  h B F0 ta sg H _ e fun J ta' H1 hta e1 hgo hst => fun Dl hD => by
    let P : Nat → Hp → Prop := fun i H => ∃ acc k, Inv i acc k ∧ acc.length ≤ i ∧ En K B F0 ro (k ++ [(Dl, .lst acc)]) ta' sg H
    have p0 : P 0 (upd H1 Dl (.lst [])) := by
      obtain ⟨F, g, e1⟩ := e1
      exact ⟨[], k1, h0, Nat.le_refl _, F, g, e1.cell (o := .lst []) hD (n := .lst []) ⟨[], upd_same, rfl⟩⟩
    have hln : (ps.map fun p : D × D => W.val (.tup [p.1, p.2])).length = ps.length := List.length_map _
    refine ⟨fun i m H => m = ps.length - i ∧ i ≤ ps.length ∧ P i H, ⟨ps.length, by simp, Nat.zero_le _, p0⟩, ?_⟩
    rintro i m H2 ⟨rfl, hi, acc, k, inv, hlen, e2⟩
    by_cases hlt : i < ps.length
    · have hw : ps[i]? = some ps[i] := List.getElem?_eq_getElem hlt
      have hw2 : (ps.map fun p : D × D => W.val (.tup [p.1, p.2]))[i]? = some (.val (.tup [ps[i].1, ps[i].2])) := by rw [List.getElem?_map, hw]; rfl
      obtain ⟨g1, g2⟩ := hgo i _ ro (k ++ [(Dl, .lst acc)]) ta' sg H2 hw2 ((hC i acc k inv).2 _) (fun p hp => hp) e2
      refine .inr ⟨g1, P (i + 1), fun H' p => ⟨ps.length - (i + 1), by omega, rfl, hlt, p⟩, fun x H3 y => ?_⟩
      obtain ⟨F3, gF3, eF3⟩ := g2 x H3 y
      refine gpair eF3 (eF3.tm _ List.mem_cons_self) fun v1 v2 r1 r2 => ⟨?_, ?_⟩
      · rw [wipe_sets hl, wipe_sets hj, wipe_two]
      have slots : ∀ {F : Hp}, Gr B F3 F → ∀ (a : Nat) w, ro[a]? = some (some w) → ∃ v, sg[a]? = some (some v) ∧ WOk K B F v w := fun {F} g a w ha => by
        obtain ⟨v, h1, h2⟩ := eF3.sl a w ha
        exact ⟨v, h1, wok_gr eF3.nz g h2⟩
      have out : ∀ {k : Cells} {ta2 : List (V × W)} {H : Hp}, (∃ F, Gr B F0 F ∧ EnF K B F (((wipeR ro vs).set j (some (.val ps[i].1))).set l (some (.val ps[i].2))) k ta2 (((wipe sg vs).set j (some v1)).set l (some v2)) H ∧ ∀ (a : Nat) w, ro[a]? = some (some w) → ∃ v, sg[a]? = some (some v) ∧ WOk K B F v w) → En K B F0 ro k ta2 sg H := fun ⟨F, g, q, hs⟩ => ⟨F, g, q.frame (by obtain ⟨_, _, e0⟩ := e; exact e0.ln) hs⟩
      have e4' : En K B F3 (((wipeR ro vs).set j (some (.val ps[i].1))).set l (some (.val ps[i].2))) (k ++ [(Dl, .lst acc)]) ta' (((wipe sg vs).set j (some v1)).set l (some v2)) H3 :=
        ⟨F3, Gr.refl _ _, (((wipe_en (vs := vs) eF3).set (w := .val ps[i].1) r1 j).set (w := .val ps[i].2) r2 l).held fun p hp => List.mem_cons_of_mem _ hp⟩
      rcases hs i ps[i] acc k hw inv with ⟨k2, t1, inv2⟩ | ⟨k2, k3, d, t1, t2, inv2⟩
      · refine t1.fr [(Dl, .lst acc)] B F3 ta' _ H3 _ e4' fun H4 ⟨F4, g4, e5⟩ => ?_
        exact ⟨acc, k2, inv2, Nat.le_succ_of_le hlen, out ⟨F4, gF3.trans g4, e5, slots g4⟩⟩
      · refine t1.fr [(Dl, .lst acc)] B F3 ta' _ H3 _ e4' fun H4 e5 => ?_
        refine t2.fr [(Dl, .lst acc)] B F3 ta' _ H4 _ e5 fun v H5 ⟨F5, g5, e6⟩ => ?_
        have hx : (k3 ++ [(Dl, Nd.lst acc)])[k3.length]? = some (Dl, Nd.lst acc) := by simp
        obtain ⟨xs, h1, h2⟩ := e6.rd_lst hx
        have hv := e6.tm _ List.mem_cons_self
        have e7 := e6.write (o := .lst (xs ++ [v])) (n' := .lst (acc ++ [d])) hx ⟨_, upd_same, rpl_app h2 ⟨v, [], rfl, hv, rfl⟩⟩
        have hset : (k3 ++ [(Dl, Nd.lst acc)]).set k3.length (Dl, Nd.lst (acc ++ [d])) = k3 ++ [(Dl, Nd.lst (acc ++ [d]))] := by
          rw [List.set_append_right _ _ (Nat.le_refl _)]
          simp
        rw [hset] at e7
        refine ⟨xs, h1, by rw [rpl_len h2]; exact Nat.lt_of_le_of_lt (Nat.le_trans hlen (Nat.le_trans hi hn)) (by decide), acc ++ [d], k3, inv2, by rw [List.length_append]; exact Nat.succ_le_succ hlen, ?_⟩
        exact out ⟨F5, gF3.trans g5, e7.held fun p hp => List.mem_cons_of_mem _ hp, slots g5⟩
    · have ei : i = ps.length := by omega
      subst ei
      refine .inl ⟨hst _ ro (k ++ [(Dl, .lst acc)]) ta' sg H2 (by rw [hln]; exact Nat.le_refl _) ((hC _ acc k inv).2 _) (fun p hp => hp) e2, ?_⟩
      exact q _ _ Dl H2 ⟨acc, rfl, inv⟩ (e2.held hta)
end
section
variable {K : PySem.W.Frag} {ro : Ro} {ka k1 k2 : Cells} {te tf : TE} {w : W}
/-- the type of what w stands for, wherever it is asked -/
def TwX (K : PySem.W.Frag) (ka : Cells) (w : W) (t : Value) : Prop := ∀ B F0 ro ta sg H v, En K B F0 ro ka ta sg H → (v, w) ∈ ta → TyX K H v t
theorem Tw.x {t : Value} (l : Tw K ka w t) : TwX K ka w t := fun _ _ _ _ _ _ _ e h => l.at e h
end
end DL
namespace DL
open PySem L2 PySem.W
end DL
namespace DL
open PySem L2 PySem.W
section
variable {K : PySem.W.Frag} {ro : Ro} {ka k1 k2 : Cells} {te : TE} {tr : TA} {w : W} {C C1 : Addr} {fs : List (Str × D)} {b : Bool} {E : XK} {Cc : Ct} {ws : List W}
end
end DL

/-! EQ: for over a list of which a word tells (own work). -/
namespace DL
open PySem L2 PySem.W
section
variable {K : PySem.W.Frag} {B F F0 : Hp} {ro : Ro} {ka k1 k2 k3 kr : Cells} {ta : List (V × W)} {sg : L2.St} {H H' : Hp} {te tf tg : TE} {w x y z : W} {n : Nd} {P P2 : W → Cells → Prop} {De : Ends} {u : TS} {r : R2}
end
end DL

/-! ES: what the courses' laws want (own work). -/
namespace DL
open PySem L2 PySem.W
/-! an object made where the wish of an exception may speak of the slots -/
section
variable {X : Cx} {CX : CXT} {k : Nat} {C f : Addr} {fd : FuncData} {ps : List Str} {sp : Sp} {dvs : List V} {ds : List Value}
end
section
variable {K : PySem.W.Frag} {B F0 : Hp} {ro : Ro} {ka k1 k2 k3 : Cells} {ta : List (V × W)} {te tf tg : TE} {tt : TT} {De : Ends} {t u : TS} {w x y : W}
/-- arguments told by a word -/
def EvAR (K : PySem.W.Frag) (tr : TA) (ro : Ro) (ka : Cells) (R : List W → Cells → Prop) : Prop := ∀ B F0 ta sg H (Q : List V → Hp → Prop), En K B F0 ro ka ta sg H → (∀ ws k vs H', R ws k → vs.length = ws.length → En K B F0 ro k (vs.zip ws ++ ta) sg H' → Q vs H') → tr sg H Q
theorem EvA.toR {tr : TA} {ws : List W} (h : EvA K tr ro ka ws k1) : EvAR K tr ro ka (fun ws' k => ws' = ws ∧ k = k1) := fun B F0 ta sg H Q e q => h B F0 ta sg H _ e fun vs H' hl e' => q ws k1 vs H' ⟨rfl, rfl⟩ hl e'
theorem EvAR.imp {tr : TA} {R R2 : List W → Cells → Prop} (h : EvAR K tr ro ka R) (i : ∀ ws k, R ws k → R2 ws k) : EvAR K tr ro ka R2 := fun B F0 ta sg H Q e q => h B F0 ta sg H Q e fun ws k vs H' r => q ws k vs H' (i ws k r)
theorem EvR.rp {P P2 : W → Cells → Prop} (h : EvR K te ro ka P) (hP : ∀ w k, P w k → ∃ k', P2 w k' ∧ k'.Perm k) : EvR K te ro ka P2 := fun B F0 ta sg H Q e q => h B F0 ta sg H Q e fun w k v H' p e' =>
  let ⟨k', p2, s⟩ := hP w k p
  q w k' v H' p2 (e'.perm s)
end
section
variable {P : Program} {w : World} {K : PySem.W.Frag} {mg : Str → Option Value} {base : Heap} {k : Nat} {x qual : Str} {N ps : List Str} {params : Arguments} {body : List Stmt} {scope : Scope} {f : Addr} {fd : FuncData} {C : Ct}
end
section
variable {K : PySem.W.Frag} {B F0 : Hp} {ro : Ro} {ka k1 k2 k3 : Cells} {te tf : TE} {w : W}
theorem list_snoc_ind {α : Type} {P : List α → Prop} (nil : P []) (snoc : ∀ (xs : List α) (x : α), P xs → P (xs ++ [x])) (xs : List α) : P xs := by
  have key : ∀ ys : List α, P ys.reverse := by
    intro ys
    induction ys with
    | nil => exact nil
    | cons y ys ih => rw [List.reverse_cons]; exact snoc _ _ ih
  have := key xs.reverse
  rwa [List.reverse_reverse] at this
end
end DL

/-! EU: lanes joined along a search for a way that joins one more (own work): plain lists. -/
namespace DL
open PySem L2 PySem.W
/-! a table of texts -/
abbrev Tb := List (Str × Str)
def getS (fo : Tb) (o : Str) : Option Str := (fo.find? fun p => decide (p.1 = o)).map (·.2)
def putS (fo : Tb) (o u : Str) : Tb := if o ∈ fo.map (·.1) then fo.map fun p => if p.1 = o then (o, u) else p else fo ++ [(o, u)]
theorem getS_some {fo : Tb} {o w : Str} (h : getS fo o = some w) : (o, w) ∈ fo := by
  unfold getS at h
  obtain ⟨p, h1, rfl⟩ := Option.map_eq_some_iff.mp h
  have h2 := List.find?_some h1
  have h3 := of_decide_eq_true h2
  subst h3
  exact List.mem_of_find?_eq_some h1
theorem getS_none {fo : Tb} {o : Str} : getS fo o = none ↔ ¬ o ∈ fo.map (·.1) := by
  unfold getS
  rw [Option.map_eq_none_iff, List.find?_eq_none]
  constructor
  · intro h z
    obtain ⟨p, h1, rfl⟩ := List.mem_map.mp z
    exact h p h1 (decide_eq_true rfl)
  · intro h p hp z
    exact h (List.mem_map.mpr ⟨p, hp, of_decide_eq_true z⟩)
theorem getS_mem {fo : Tb} (hn : (fo.map (·.1)).Nodup) {o w : Str} (h : (o, w) ∈ fo) : getS fo o = some w := by
  cases hg : getS fo o with
  | none => exact absurd (List.mem_map.mpr ⟨_, h, rfl⟩) (getS_none.mp hg)
  | some v =>
    have h2 := getS_some hg
    induction fo with
    | nil => cases h
    | cons p l ih =>
      have hn2 := List.nodup_cons.mp hn
      rcases List.mem_cons.mp h with e1 | h1
      · rcases List.mem_cons.mp h2 with e2 | h3
        · rw [← e1] at e2
          cases e2; rfl
        · exact absurd (List.mem_map.mpr ⟨(o, v), h3, by rw [← e1]⟩ : p.1 ∈ l.map (·.1)) hn2.1
      · rcases List.mem_cons.mp h2 with e2 | h3
        · exact absurd (List.mem_map.mpr ⟨(o, w), h1, by rw [← e2]⟩ : p.1 ∈ l.map (·.1)) hn2.1
        · have e : getS (p :: l) o = getS l o := by
            have ne : ¬ p.1 = o := fun z => hn2.1 (List.mem_map.mpr ⟨(o, w), h1, z.symm⟩)
            unfold getS
            rw [List.find?_cons_of_neg (by simp [ne])]
          rw [e] at hg
          exact ih hn2.2 h1 hg h3
theorem putS_keys {fo : Tb} {o u : Str} : (putS fo o u).map (·.1) = if o ∈ fo.map (·.1) then fo.map (·.1) else fo.map (·.1) ++ [o] := by
  unfold putS
  split
  · rw [List.map_map]
    refine List.map_congr_left fun p _ => ?_
    show (if p.1 = o then (o, u) else p).1 = p.1
    split
    · rename_i h; exact h.symm
    · rfl
  · rw [List.map_append]; rfl
theorem putS_nd {fo : Tb} {o u : Str} (hn : (fo.map (·.1)).Nodup) : ((putS fo o u).map (·.1)).Nodup := by
  rw [putS_keys]
  split
  · exact hn
  · rename_i h
    rw [List.nodup_append]
    exact ⟨hn, List.nodup_cons.mpr ⟨List.not_mem_nil, List.nodup_nil⟩, fun x hx y hy z => h (by rw [List.mem_singleton.mp hy] at z; rw [← z]; exact hx)⟩
theorem putS_has {fo : Tb} {o u x : Str} : x ∈ (putS fo o u).map (·.1) ↔ x = o ∨ x ∈ fo.map (·.1) := by
  rw [putS_keys]
  split
  · rename_i h
    constructor
    · exact .inr
    · rintro (rfl | h2)
      · exact h
      · exact h2
  · rw [List.mem_append, List.mem_singleton]
    exact Or.comm
theorem putS_mem {fo : Tb} {o u x w : Str} (h : (x, w) ∈ putS fo o u) : (x = o ∧ w = u) ∨ (x, w) ∈ fo := by
  unfold putS at h
  split at h
  · obtain ⟨p, h1, h2⟩ := List.mem_map.mp h
    split at h2
    · cases h2; exact .inl ⟨rfl, rfl⟩
    · rw [← h2]; exact .inr h1
  · rcases List.mem_append.mp h with h | h
    · exact .inr h
    · cases List.mem_singleton.mp h; exact .inl ⟨rfl, rfl⟩
theorem getS_other {fo : Tb} {o u x : Str} (h : x ≠ o) : getS (putS fo o u) x = getS fo x := by
  unfold getS putS
  split
  · have key : ∀ l : Tb, ((l.map fun p => if p.1 = o then (o, u) else p).find? fun p => decide (p.1 = x)).map (·.2) = (l.find? fun p => decide (p.1 = x)).map (·.2) := by
      intro l
      induction l with
      | nil => rfl
      | cons p l ih =>
        rw [List.map_cons]
        by_cases e : p.1 = o
        · rw [if_pos e, List.find?_cons_of_neg (by simp [Ne.symm h]), List.find?_cons_of_neg (by rw [e]; simp [Ne.symm h])]
          exact ih
        · rw [if_neg e]
          by_cases e2 : p.1 = x
          · rw [List.find?_cons_of_pos (by simp [e2]), List.find?_cons_of_pos (by simp [e2])]
          · rw [List.find?_cons_of_neg (by simp [e2]), List.find?_cons_of_neg (by simp [e2])]
            exact ih
    exact key fo
  · rw [List.find?_append]
    have : ([(o, u)] : Tb).find? (fun p => decide (p.1 = x)) = none := by rw [List.find?_cons_of_neg (by simp [Ne.symm h])]; rfl
    rw [this, Option.or_none]
/-- the values behind a put -/
theorem putS_vals {fo : Tb} {o u w : Str} (hn : (fo.map (·.1)).Nodup) (h : getS fo o = some w) : (w :: (putS fo o u).map (·.2)).Perm (u :: fo.map (·.2)) := by
  have hm := getS_some h
  have hk : o ∈ fo.map (·.1) := List.mem_map.mpr ⟨_, hm, rfl⟩
  unfold putS
  rw [if_pos hk]
  clear h hk
  induction fo with
  | nil => cases hm
  | cons p l ih =>
    have hn2 := List.nodup_cons.mp hn
    rcases List.mem_cons.mp hm with e | hm
    · subst e
      rw [List.map_cons, List.map_cons, List.map_cons, if_pos rfl]
      have e2 : (l.map fun p => if p.1 = o then (o, u) else p) = l := by
        have : ∀ q ∈ l, (if q.1 = o then (o, u) else q) = q := fun q hq => if_neg fun z => hn2.1 (List.mem_map.mpr ⟨q, hq, z⟩)
        exact (List.map_congr_left this).trans (List.map_id _)
      rw [e2]
      exact List.Perm.swap _ _ _
    · have ne : ¬ p.1 = o := fun z => hn2.1 (List.mem_map.mpr ⟨_, hm, z.symm⟩)
      rw [List.map_cons, List.map_cons, List.map_cons, if_neg ne]
      exact (List.Perm.swap _ _ _).trans (((ih hn2.2 hm).cons _).trans (List.Perm.swap _ _ _))
theorem putS_valsN {fo : Tb} {o u : Str} (h : getS fo o = none) : (putS fo o u).map (·.2) = fo.map (·.2) ++ [u] := by
  unfold putS
  rw [if_neg (getS_none.mp h), List.map_append]
  rfl
/-! the search -/
structure Js where
  fo : Tb
  tr : List Str
def augL (rec : Str → Js → Bool × Js) (u : Str) : List Str → Js → Bool × Js
  | [], s => (false, s)
  | o :: os, s => if o ∈ s.tr then augL rec u os s else
    match getS s.fo o with
    | none => (true, ⟨putS s.fo o u, s.tr ++ [o]⟩)
    | some w => match rec w ⟨s.fo, s.tr ++ [o]⟩ with
      | (true, s2) => (true, ⟨putS s2.fo o u, s2.tr⟩)
      | (false, s2) => augL rec u os s2
def aug (bh : Str → List Str) : Nat → Str → Js → Bool × Js
  | 0, _, s => (false, s)
  | n + 1, u, s => augL (aug bh n) u (bh u) s
/-- what a search leaves: what was tried stays; tried ones keep their place; without success all stays -/
structure Ag (s : Js) (r : Bool × Js) : Prop where
  tr : ∀ x ∈ s.tr, x ∈ r.2.tr
  keep : ∀ x ∈ s.tr, getS r.2.fo x = getS s.fo x
  fail : r.1 = false → r.2.fo = s.fo
  nd : (s.fo.map (·.1)).Nodup → (r.2.fo.map (·.1)).Nodup
theorem ag_L {rec : Str → Js → Bool × Js} (hr : ∀ w s, Ag s (rec w s)) (u : Str) : ∀ (os : List Str) (s : Js), Ag s (augL rec u os s)
  | [], s => ⟨fun _ h => h, fun _ _ => rfl, fun _ => rfl, fun h => h⟩
  | o :: os, s => by
    unfold augL
    split
    · exact ag_L hr u os s
    · rename_i hno
      split
      · exact ⟨fun x h => List.mem_append_left _ h, fun x h => getS_other fun z => hno (by rw [← z]; exact h), fun z => (by cases z), putS_nd⟩
      · rename_i w hw
        have a := hr w ⟨s.fo, s.tr ++ [o]⟩
        split
        · rename_i s2 e
          rw [e] at a
          refine ⟨fun x h => a.tr x (List.mem_append_left _ h), fun x h => ?_, fun z => (by cases z), fun h => putS_nd (a.nd h)⟩
          exact (getS_other fun z => hno (by rw [← z]; exact h)).trans (a.keep x (List.mem_append_left _ h))
        · rename_i s2 e
          rw [e] at a
          have b := ag_L hr u os s2
          refine ⟨fun x h => b.tr x (a.tr x (List.mem_append_left _ h)), fun x h => (b.keep x (a.tr x (List.mem_append_left _ h))).trans (a.keep x (List.mem_append_left _ h)), fun z => (b.fail z).trans (a.fail rfl), fun h => b.nd (a.nd h)⟩
theorem ag_all (bh : Str → List Str) : ∀ (n : Nat) (u : Str) (s : Js), Ag s (aug bh n u s)
  | 0, u, s => ⟨fun _ h => h, fun _ _ => rfl, fun _ => rfl, fun h => h⟩
  | n + 1, u, s => ag_L (ag_all bh n) u (bh u) s
/-- success: u has a place more -/
theorem aug_vals (bh : Str → List Str) : ∀ (n : Nat) (u : Str) (s s' : Js), (s.fo.map (·.1)).Nodup → aug bh n u s = (true, s') → (s'.fo.map (·.2)).Perm (u :: s.fo.map (·.2))
  | 0, u, s, s', _, h => by cases h
  | n + 1, u, s, s', hn, h => by
    have key : ∀ (os : List Str) (s : Js), (s.fo.map (·.1)).Nodup → augL (aug bh n) u os s = (true, s') → (s'.fo.map (·.2)).Perm (u :: s.fo.map (·.2)) := by
      intro os
      induction os with
      | nil => intro s _ h; cases h
      | cons o os ih =>
        intro s hn h
        unfold augL at h
        split at h
        · exact ih s hn h
        · split at h
          · rename_i hg
            cases h
            show ((putS s.fo o u).map (·.2)).Perm _
            rw [putS_valsN hg]
            exact List.perm_append_comm
          · rename_i w hw
            have a := ag_all bh n w ⟨s.fo, s.tr ++ [o]⟩
            split at h
            · rename_i s2 e
              cases h
              have ihv := aug_vals bh n w ⟨s.fo, s.tr ++ [o]⟩ _ hn e
              rw [e] at a
              have hk : getS s2.fo o = some w := (a.keep o (List.mem_append_right _ (List.mem_singleton.mpr rfl))).trans hw
              have p1 := putS_vals (u := u) (a.nd hn) hk
              exact (List.Perm.cons_inv (a := w) (p1.trans ((ihv.cons u).trans (List.Perm.swap _ _ _))))
            · rename_i s2 e
              rw [e] at a
              have hf : s2.fo = s.fo := a.fail rfl
              have := ih s2 (a.nd hn) h
              rwa [hf] at this
    exact key _ _ hn h
/-- all pairs are of the relation -/
theorem aug_edge {bh : Str → List Str} : ∀ (n : Nat) (u : Str) (s : Js), (∀ p ∈ s.fo, p.1 ∈ bh p.2) → ∀ p ∈ (aug bh n u s).2.fo, p.1 ∈ bh p.2
  | 0, u, s, h => h
  | n + 1, u, s, h => by
    have key : ∀ (os : List Str) (s : Js), (∀ o ∈ os, o ∈ bh u) → (∀ p ∈ s.fo, p.1 ∈ bh p.2) → ∀ p ∈ (augL (aug bh n) u os s).2.fo, p.1 ∈ bh p.2 := by
      intro os
      induction os with
      | nil => intro s _ h; exact h
      | cons o os ih =>
        intro s hos h
        have put : ∀ fo : Tb, (∀ p ∈ fo, p.1 ∈ bh p.2) → ∀ p ∈ putS fo o u, p.1 ∈ bh p.2 := fun fo hf p hp => by
          rcases putS_mem (x := p.1) (w := p.2) hp with ⟨e1, e2⟩ | hp
          · rw [e1, e2]; exact hos o List.mem_cons_self
          · exact hf _ hp
        unfold augL
        split
        · exact ih s (fun x hx => hos x (List.mem_cons_of_mem _ hx)) h
        · split
          · exact put _ h
          · rename_i w hw
            have hr := aug_edge n w ⟨s.fo, s.tr ++ [o]⟩ h
            split
            · rename_i s2 e
              rw [e] at hr
              exact put _ hr
            · rename_i s2 e
              rw [e] at hr
              exact ih s2 (fun x hx => hos x (List.mem_cons_of_mem _ hx)) hr
    exact key _ _ (fun _ h => h) h
/-- T is closed: each of T has a place, and what is behind that one is in T -/
def Cl (bh : Str → List Str) (fo : Tb) (T : List Str) : Prop := ∀ o ∈ T, ∃ w, getS fo o = some w ∧ ∀ x ∈ bh w, x ∈ T
/-- no search leaves a closed set -/
theorem aug_cl {bh : Str → List Str} {T : List Str} : ∀ (n : Nat) (u : Str) (s : Js), Cl bh s.fo T → (∀ x ∈ bh u, x ∈ T) → (aug bh n u s).1 = false
  | 0, u, s, _, _ => rfl
  | n + 1, u, s, hc, hu => by
    have key : ∀ (os : List Str) (s : Js), (∀ o ∈ os, o ∈ T) → Cl bh s.fo T → (augL (aug bh n) u os s).1 = false := by
      intro os
      induction os with
      | nil => intro s _ _; rfl
      | cons o os ih =>
        intro s hos hc
        have hos2 : ∀ x ∈ os, x ∈ T := fun x hx => hos x (List.mem_cons_of_mem _ hx)
        obtain ⟨w, hw, hb⟩ := hc o (hos o List.mem_cons_self)
        unfold augL
        rw [hw]
        dsimp only
        split
        · exact ih s hos2 hc
        · have hr := aug_cl n w ⟨s.fo, s.tr ++ [o]⟩ hc hb
          have a := ag_all bh n w ⟨s.fo, s.tr ++ [o]⟩
          split
          · rename_i s2 e
            rw [e] at hr
            cases hr
          · rename_i s2 e
            rw [e] at a
            exact ih s2 hos2 (by rw [a.fail rfl]; exact hc)
    exact key _ _ hu hc
theorem aug_keepT {bh : Str → List Str} {T : List Str} : ∀ (n : Nat) (u : Str) (s : Js), Cl bh s.fo T → ∀ o ∈ T, getS (aug bh n u s).2.fo o = getS s.fo o
  | 0, u, s, _, _, _ => rfl
  | n + 1, u, s, hc, t, ht => by
    have key : ∀ (os : List Str) (s : Js), Cl bh s.fo T → getS (augL (aug bh n) u os s).2.fo t = getS s.fo t := by
      intro os
      induction os with
      | nil => intro s _; rfl
      | cons o os ih =>
        intro s hc
        unfold augL
        split
        · exact ih s hc
        · split
          · rename_i hg
            refine getS_other fun z => ?_
            subst z
            obtain ⟨w, hw, _⟩ := hc t ht
            rw [hg] at hw
            cases hw
          · rename_i w hw
            have hk := aug_keepT n w ⟨s.fo, s.tr ++ [o]⟩ hc t ht
            have a := ag_all bh n w ⟨s.fo, s.tr ++ [o]⟩
            split
            · rename_i s2 e
              rw [e] at hk
              refine (getS_other fun z => ?_).trans hk
              subst z
              obtain ⟨w', hw', hb⟩ := hc t ht
              rw [hw] at hw'
              cases hw'
              have := aug_cl n w ⟨s.fo, s.tr ++ [t]⟩ hc hb
              rw [e] at this
              cases this
            · rename_i s2 e
              rw [e] at a hk
              rw [ih s2 (by rw [a.fail rfl]; exact hc)]
              exact hk
    exact key _ _ hc
/-- a search that fails has tried a closed set -/
theorem aug_fail {bh : Str → List Str} {L : List Str} (hb : ∀ l, ∀ x ∈ bh l, x ∈ L) : ∀ (n : Nat) (u : Str) (s s' : Js), s.tr.Nodup → (∀ x ∈ s.tr, x ∈ L) → L.length < n + s.tr.length → aug bh n u s = (false, s') →
    s'.tr.Nodup ∧ (∀ x ∈ s'.tr, x ∈ L) ∧ (∀ o ∈ bh u, o ∈ s'.tr) ∧ ∀ o ∈ s'.tr, ¬ o ∈ s.tr → ∃ w, getS s.fo o = some w ∧ ∀ x ∈ bh w, x ∈ s'.tr
  | 0, u, s, s', hd, hs, hl, h => by
    have len : s.tr.length ≤ L.length := by
      clear h hl
      generalize s.tr = xs at *
      have sub : ∀ (xs ys : List Str), xs.Nodup → (∀ x ∈ xs, x ∈ ys) → xs.length ≤ ys.length := by
        intro xs
        induction xs with
        | nil => intro ys _ _; exact Nat.zero_le _
        | cons x xs ih =>
          intro ys hn hm
          have h2 := List.nodup_cons.mp hn
          have hx := hm x List.mem_cons_self
          have := ih (ys.erase x) h2.2 fun y hy => (List.mem_erase_of_ne (fun z : y = x => h2.1 (by rw [← z]; exact hy))).mpr (hm y (List.mem_cons_of_mem _ hy))
          rw [List.length_erase_of_mem hx] at this
          have : 0 < ys.length := List.length_pos_of_mem hx
          rw [List.length_cons]
          omega
      exact sub xs L hd hs
    omega
  | n + 1, u, s, s', hd, hs, hl, h => by
    have key : ∀ (os : List Str) (s : Js), (∀ o ∈ os, o ∈ L) → s.tr.Nodup → (∀ x ∈ s.tr, x ∈ L) → L.length < n + 1 + s.tr.length → augL (aug bh n) u os s = (false, s') →
        s'.tr.Nodup ∧ (∀ x ∈ s'.tr, x ∈ L) ∧ (∀ x ∈ s.tr, x ∈ s'.tr) ∧ (∀ o ∈ os, o ∈ s'.tr) ∧ ∀ o ∈ s'.tr, ¬ o ∈ s.tr → ∃ w, getS s.fo o = some w ∧ ∀ x ∈ bh w, x ∈ s'.tr := by
      intro os
      induction os with
      | nil =>
        intro s _ hd hs _ h
        cases h
        exact ⟨hd, hs, fun _ h => h, fun _ h => (by cases h), fun o h1 h2 => absurd h1 h2⟩
      | cons o os ih =>
        intro s hos hd hs hl h
        have hos2 : ∀ x ∈ os, x ∈ L := fun x hx => hos x (List.mem_cons_of_mem _ hx)
        unfold augL at h
        split at h
        · rename_i hin
          obtain ⟨h1, h2, h3, h4, h5⟩ := ih s hos2 hd hs hl h
          refine ⟨h1, h2, h3, fun x hx => ?_, h5⟩
          rcases List.mem_cons.mp hx with rfl | hx
          · exact h3 _ hin
          · exact h4 x hx
        · rename_i hin
          split at h
          · cases h
          · rename_i w hw
            have a := ag_all bh n w ⟨s.fo, s.tr ++ [o]⟩
            split at h
            · cases h
            · rename_i s2 e
              have hd2 : (s.tr ++ [o]).Nodup := by
                rw [List.nodup_append]
                exact ⟨hd, List.nodup_cons.mpr ⟨List.not_mem_nil, List.nodup_nil⟩, fun x hx y hy z => hin (by rw [List.mem_singleton.mp hy] at z; rw [← z]; exact hx)⟩
              have hs2 : ∀ x ∈ s.tr ++ [o], x ∈ L := fun x hx => by
                rcases List.mem_append.mp hx with hx | hx
                · exact hs x hx
                · rw [List.mem_singleton.mp hx]; exact hos o List.mem_cons_self
              obtain ⟨r1, r2, r3, r4⟩ := aug_fail hb n w ⟨s.fo, s.tr ++ [o]⟩ s2 hd2 hs2 (by show L.length < n + (s.tr ++ [o]).length; rw [List.length_append, List.length_singleton]; omega) e
              rw [e] at a
              have hf : s2.fo = s.fo := a.fail rfl
              have hlen : s.tr.length ≤ s2.tr.length := by
                have sub : ∀ (xs ys : List Str), xs.Nodup → (∀ x ∈ xs, x ∈ ys) → xs.length ≤ ys.length := by
                  intro xs
                  induction xs with
                  | nil => intro ys _ _; exact Nat.zero_le _
                  | cons x xs ih =>
                    intro ys hn hm
                    have h2 := List.nodup_cons.mp hn
                    have hx := hm x List.mem_cons_self
                    have := ih (ys.erase x) h2.2 fun y hy => (List.mem_erase_of_ne (fun z : y = x => h2.1 (by rw [← z]; exact hy))).mpr (hm y (List.mem_cons_of_mem _ hy))
                    rw [List.length_erase_of_mem hx] at this
                    have : 0 < ys.length := List.length_pos_of_mem hx
                    rw [List.length_cons]
                    omega
                exact sub _ _ hd fun x hx => a.tr x (List.mem_append_left _ hx)
              obtain ⟨h1, h2, h3, h4, h5⟩ := ih s2 hos2 r1 r2 (by omega) h
              refine ⟨h1, h2, fun x hx => h3 x (a.tr x (List.mem_append_left _ hx)), fun x hx => ?_, fun x hx hxs => ?_⟩
              · rcases List.mem_cons.mp hx with rfl | hx
                · exact h3 _ (a.tr _ (List.mem_append_right _ (List.mem_singleton.mpr rfl)))
                · exact h4 x hx
              · by_cases hx2 : x ∈ s2.tr
                · by_cases hxo : x = o
                  · subst hxo
                    exact ⟨w, hw, fun y hy => h3 y (r3 y hy)⟩
                  · obtain ⟨w', q1, q2⟩ := r4 x hx2 fun z => (List.mem_append.mp z).elim hxs fun z => hxo (List.mem_singleton.mp z)
                    exact ⟨w', q1, fun y hy => h3 y (q2 y hy)⟩
                · obtain ⟨w', q1, q2⟩ := h5 x hx hx2
                  rw [hf] at q1
                  exact ⟨w', q1, q2⟩
    obtain ⟨h1, h2, h3, h4, h5⟩ := key _ _ (fun o ho => hb u o ho) hd hs hl h
    exact ⟨h1, h2, h4, h5⟩
end DL

/-! EV: as many lanes apart as chains are wanted (own work): plain lists. -/
namespace DL
open PySem L2 PySem.W
theorem nd_sub_len : ∀ {xs ys : List Str}, xs.Nodup → (∀ x ∈ xs, x ∈ ys) → xs.length ≤ ys.length
  | [], _, _, _ => Nat.zero_le _
  | x :: xs, ys, hn, hm => by
    have h2 := List.nodup_cons.mp hn
    have hx := hm x List.mem_cons_self
    have := nd_sub_len (ys := ys.erase x) h2.2 fun y hy => (List.mem_erase_of_ne (fun z : y = x => h2.1 (by rw [← z]; exact hy))).mpr (hm y (List.mem_cons_of_mem _ hy))
    rw [List.length_erase_of_mem hx] at this
    have : 0 < ys.length := List.length_pos_of_mem hx
    rw [List.length_cons]
    omega
/-- one lane joined, if it can be -/
def foStep (bh : Str → List Str) (n : Nat) (fo : Tb) (l : Str) : Tb := (aug bh n l ⟨fo, []⟩).2.fo
def foAll (bh : Str → List Str) (n : Nat) (ls : List Str) (fo : Tb) : Tb := ls.foldl (foStep bh n) fo
/-- joined so far: those of pre that have no place are shut in by a closed set -/
structure Jn (bh : Str → List Str) (L pre : List Str) (fo : Tb) : Prop where
  kn : (fo.map (·.1)).Nodup
  vn : (fo.map (·.2)).Nodup
  vs : ∀ v ∈ fo.map (·.2), v ∈ pre
  ed : ∀ p ∈ fo, p.1 ∈ bh p.2
  cl : ∃ T, Cl bh fo T ∧ (∀ x ∈ T, x ∈ L) ∧ ∀ u ∈ pre, ¬ u ∈ fo.map (·.2) → ∀ x ∈ bh u, x ∈ T
theorem Jn.step {bh : Str → List Str} {L pre : List Str} {fo : Tb} (h : Jn bh L pre fo) (hb : ∀ l, ∀ x ∈ bh l, x ∈ L) {n : Nat} (hn : L.length < n) {l : Str} (hl : ¬ l ∈ pre) : Jn bh L (pre ++ [l]) (foStep bh n fo l) := by
  obtain ⟨T, hT, hTL, hU⟩ := h.cl
  have a := ag_all bh n l ⟨fo, []⟩
  have ed := aug_edge (bh := bh) n l ⟨fo, []⟩ h.ed
  have kt := aug_keepT (T := T) n l ⟨fo, []⟩ hT
  unfold foStep
  generalize hr : aug bh n l ⟨fo, []⟩ = r at *
  obtain ⟨b, s'⟩ := r
  cases b with
  | false =>
    have hf : s'.fo = fo := a.fail rfl
    obtain ⟨h1, h2, h3, h4⟩ := aug_fail hb n l ⟨fo, []⟩ s' List.nodup_nil (fun _ z => (by cases z)) (by show L.length < n + 0; omega) hr
    show Jn bh L (pre ++ [l]) s'.fo
    rw [hf]
    refine ⟨h.kn, h.vn, fun v hv => List.mem_append_left _ (h.vs v hv), h.ed, T ++ s'.tr, fun o ho => ?_, fun x hx => ?_, fun u hu hnu x hx => ?_⟩
    · rcases List.mem_append.mp ho with ho | ho
      · obtain ⟨w, q1, q2⟩ := hT o ho
        exact ⟨w, q1, fun x hx => List.mem_append_left _ (q2 x hx)⟩
      · obtain ⟨w, q1, q2⟩ := h4 o ho (fun z => by cases z)
        exact ⟨w, q1, fun x hx => List.mem_append_right _ (q2 x hx)⟩
    · exact (List.mem_append.mp hx).elim (hTL x) (h2 x)
    · rcases List.mem_append.mp hu with hu | hu
      · exact List.mem_append_left _ (hU u hu hnu x hx)
      · rw [List.mem_singleton.mp hu] at hx
        exact List.mem_append_right _ (h3 x hx)
  | true =>
    have hv := aug_vals bh n l ⟨fo, []⟩ s' h.kn hr
    have hv : (s'.fo.map (·.2)).Perm (l :: fo.map (·.2)) := hv
    show Jn bh L (pre ++ [l]) s'.fo
    refine ⟨a.nd h.kn, ?_, fun v hm => ?_, ed, T, fun o ho => ?_, hTL, fun u hu hnu => ?_⟩
    · exact hv.nodup_iff.mpr (List.nodup_cons.mpr ⟨fun z => hl (h.vs l z), h.vn⟩)
    · rcases List.mem_cons.mp (hv.mem_iff.mp hm) with rfl | hm
      · exact List.mem_append_right _ (List.mem_singleton.mpr rfl)
      · exact List.mem_append_left _ (h.vs v hm)
    · obtain ⟨w, q1, q2⟩ := hT o ho
      exact ⟨w, (kt o ho).trans q1, q2⟩
    · rcases List.mem_append.mp hu with hu | hu
      · exact hU u hu fun z => hnu (hv.mem_iff.mpr (List.mem_cons_of_mem _ z))
      · rw [List.mem_singleton.mp hu] at hnu
        exact absurd (hv.mem_iff.mpr List.mem_cons_self) hnu
theorem Jn.all {bh : Str → List Str} {L : List Str} (hb : ∀ l, ∀ x ∈ bh l, x ∈ L) {n : Nat} (hn : L.length < n) : ∀ (ls pre : List Str) (fo : Tb), (pre ++ ls).Nodup → Jn bh L pre fo → Jn bh L (pre ++ ls) (foAll bh n ls fo)
  | [], pre, fo, _, h => by rw [List.append_nil]; exact h
  | l :: ls, pre, fo, hd, h => by
    have e : pre ++ l :: ls = (pre ++ [l]) ++ ls := by rw [List.append_assoc]; rfl
    rw [e] at hd ⊢
    have hl : ¬ l ∈ pre := fun z => (List.nodup_append.mp (List.nodup_append.mp hd).1).2.2 l z l (List.mem_singleton.mpr rfl) rfl
    exact Jn.all hb hn ls (pre ++ [l]) _ hd (h.step hb hn hl)
theorem Jn.ini {bh : Str → List Str} {L : List Str} : Jn bh L [] [] := ⟨List.nodup_nil, List.nodup_nil, fun _ h => (by cases h), fun _ h => (by cases h), [], fun _ h => (by cases h), fun _ h => (by cases h), fun _ h => (by cases h)⟩
/-- an order of lanes: strict -/
structure Od (bh : Str → List Str) (L : List Str) : Prop where
  sub : ∀ l, ∀ x ∈ bh l, x ∈ L
  irr : ∀ l, ¬ l ∈ bh l
  tra : ∀ {l x y}, x ∈ bh l → y ∈ bh x → y ∈ bh l

/-! lanes apart -/
def vOf (fo : Tb) (o : Str) : Str := (getS fo o).getD ""
/-- left ones so far and right ones: the first lefts have no place, then those of the rights -/
structure Ap (bh : Str → List Str) (L : List Str) (fo : Tb) (T U left right : List Str) : Prop where
  le : left = U ++ right.map (vOf fo)
  rn : right.Nodup
  rt : ∀ x ∈ right, x ∈ T
  rb : ∀ x ∈ right, ∃ l ∈ left, x ∈ bh l
/-- what is fixed: fo joins lanes, T closed -/
structure Fx0 (bh : Str → List Str) (L : List Str) (fo : Tb) (T U : List Str) : Prop where
  od : Od bh L
  ln : L.Nodup
  kn : (fo.map (·.1)).Nodup
  vn : (fo.map (·.2)).Nodup
  vs : ∀ v ∈ fo.map (·.2), v ∈ L
  ed : ∀ p ∈ fo, p.1 ∈ bh p.2
  tl : ∀ x ∈ T, x ∈ L
  cl : Cl bh fo T
  ue : U = L.filter fun l => !decide (l ∈ fo.map (·.2))
  ut : ∀ u ∈ U, ∀ x ∈ bh u, x ∈ T
section
variable {bh : Str → List Str} {L : List Str} {fo : Tb} {T U left right : List Str}
theorem vOf_at {o w : Str} (h : getS fo o = some w) : vOf fo o = w := by unfold vOf; rw [h]; rfl
theorem Fx0.at (f : Fx0 bh L fo T U) {o : Str} (h : o ∈ T) : getS fo o = some (vOf fo o) ∧ (o, vOf fo o) ∈ fo ∧ ∀ x ∈ bh (vOf fo o), x ∈ T := by
  obtain ⟨w, h1, h2⟩ := f.cl o h
  rw [vOf_at h1]
  exact ⟨h1, getS_some h1, h2⟩
theorem inj_of_vn : ∀ {fo : Tb}, (fo.map (·.2)).Nodup → ∀ {o o' w : Str}, (o, w) ∈ fo → (o', w) ∈ fo → o = o'
  | [], _, _, _, _, h, _ => by cases h
  | p :: l, hn, o, o', w, h1, h2 => by
    have hn2 := List.nodup_cons.mp hn
    rcases List.mem_cons.mp h1 with e1 | h1
    · rcases List.mem_cons.mp h2 with e2 | h2
      · rw [← e1] at e2; cases e2; rfl
      · exact absurd (List.mem_map.mpr ⟨(o', w), h2, by rw [← e1]⟩ : p.2 ∈ l.map (·.2)) hn2.1
    · rcases List.mem_cons.mp h2 with e2 | h2
      · exact absurd (List.mem_map.mpr ⟨(o, w), h1, by rw [← e2]⟩ : p.2 ∈ l.map (·.2)) hn2.1
      · exact inj_of_vn hn2.2 h1 h2
theorem Ap.nd (f : Fx0 bh L fo T U) (a : Ap bh L fo T U left right) : left.Nodup ∧ ∀ x ∈ left, x ∈ L := by
  have hU : ∀ u ∈ U, u ∈ L ∧ ¬ u ∈ fo.map (·.2) := fun u hu => by
    rw [f.ue, List.mem_filter, Bool.not_eq_true', decide_eq_false_iff_not] at hu
    exact hu
  have hv : ∀ o ∈ right, (o, vOf fo o) ∈ fo := fun o ho => (f.at (a.rt o ho)).2.1
  rw [a.le]
  refine ⟨List.nodup_append.mpr ⟨by rw [f.ue]; exact f.ln.filter _, ?_, fun x hx y hy z => ?_⟩, fun x hx => ?_⟩
  · have key : ∀ rs : List Str, rs.Nodup → (∀ o ∈ rs, (o, vOf fo o) ∈ fo) → (rs.map (vOf fo)).Nodup := by
      intro rs
      induction rs with
      | nil => intro _ _; exact List.nodup_nil
      | cons r rs ih =>
        intro hn hm
        have h2 := List.nodup_cons.mp hn
        rw [List.map_cons, List.nodup_cons]
        refine ⟨fun z => ?_, ih h2.2 fun o ho => hm o (List.mem_cons_of_mem _ ho)⟩
        obtain ⟨o, ho, e⟩ := List.mem_map.mp z
        have m1 := hm o (List.mem_cons_of_mem _ ho)
        rw [e] at m1
        exact h2.1 (inj_of_vn f.vn m1 (hm r List.mem_cons_self) ▸ ho)
    exact key _ a.rn hv
  · obtain ⟨o, ho, rfl⟩ := List.mem_map.mp hy
    exact (hU x hx).2 (z ▸ List.mem_map.mpr ⟨_, hv o ho, rfl⟩)
  · rcases List.mem_append.mp hx with hx | hx
    · exact (hU x hx).1
    · obtain ⟨o, ho, rfl⟩ := List.mem_map.mp hx
      exact f.vs _ (List.mem_map.mpr ⟨_, hv o ho, rfl⟩)
/-- the lanes that are left and not right -/
def apL (L left right : List Str) : List Str := L.filter fun l => decide (l ∈ left) && !decide (l ∈ right)
theorem mem_apL {x : Str} : x ∈ apL L left right ↔ x ∈ L ∧ x ∈ left ∧ ¬ x ∈ right := by
  unfold apL
  rw [List.mem_filter, Bool.and_eq_true, decide_eq_true_eq, Bool.not_eq_true', decide_eq_false_iff_not]
theorem filt_len : ∀ (xs : List Str) (p : Str → Bool), (xs.filter p).length + (xs.filter fun x => !p x).length = xs.length
  | [], _ => rfl
  | x :: xs, p => by
    have := filt_len xs p
    rw [List.filter_cons, List.filter_cons]
    cases p x <;> simp <;> omega
/-- no two of them in the order; as many as have no place -/
theorem Ap.fin (f : Fx0 bh L fo T U) (a : Ap bh L fo T U left right) (hc : ∀ l ∈ left, ∀ x ∈ bh l, x ∈ right) :
    (∀ x ∈ apL L left right, ∀ y ∈ apL L left right, ¬ y ∈ bh x) ∧ (apL L left right).length = U.length := by
  obtain ⟨ln, ls⟩ := a.nd f
  refine ⟨fun x hx y hy z => (mem_apL.mp hy).2.2 (hc x (mem_apL.mp hx).2.1 y z), ?_⟩
  -- every right one is a left one
  have hrl : ∀ x ∈ right, x ∈ left := fun x hx => by
    have hxL := f.tl x (a.rt x hx)
    by_cases hu : x ∈ fo.map (·.2)
    · obtain ⟨p, hp, e⟩ := List.mem_map.mp hu
      have hpb := f.ed p hp
      have e : p.2 = x := e
      rw [e] at hpb
      obtain ⟨l, hl, hxl⟩ := a.rb x hx
      have hpr := hc l hl p.1 (f.od.tra hxl hpb)
      have hv : vOf fo p.1 = p.2 := vOf_at (getS_mem f.kn (show (p.1, p.2) ∈ fo from hp))
      rw [a.le]
      exact List.mem_append_right _ (List.mem_map.mpr ⟨p.1, hpr, hv.trans e⟩)
    · rw [a.le]
      exact List.mem_append_left _ (by rw [f.ue, List.mem_filter, Bool.not_eq_true', decide_eq_false_iff_not]; exact ⟨hxL, hu⟩)
  have e1 : (apL L left right).length = (left.filter fun l => !decide (l ∈ right)).length := by
    refine Nat.le_antisymm (nd_sub_len (f.ln.filter _) fun x hx => ?_) (nd_sub_len (ln.filter _) fun x hx => ?_)
    · have := mem_apL.mp hx
      exact List.mem_filter.mpr ⟨this.2.1, by rw [decide_eq_false this.2.2]; rfl⟩
    · obtain ⟨h1, h2⟩ := List.mem_filter.mp hx
      rw [Bool.not_eq_true', decide_eq_false_iff_not] at h2
      exact mem_apL.mpr ⟨ls x h1, h1, h2⟩
  have e2 : (left.filter fun l => decide (l ∈ right)).length = right.length := by
    refine Nat.le_antisymm (nd_sub_len (ln.filter _) fun x hx => of_decide_eq_true (List.mem_filter.mp hx).2) (nd_sub_len a.rn fun x hx => List.mem_filter.mpr ⟨hrl x hx, decide_eq_true hx⟩)
  have e3 := filt_len left fun l => decide (l ∈ right)
  have e4 : left.length = U.length + right.length := by rw [a.le, List.length_append, List.length_map]
  omega
end
end DL

/-! EW: chains of joined lanes (own work): plain lists. -/
namespace DL
open PySem L2 PySem.W
/-- the table turned about: who follows -/
def swS (fo : Tb) : Tb := fo.map fun p => (p.2, p.1)
theorem swS_mem {fo : Tb} {x y : Str} : (x, y) ∈ swS fo ↔ (y, x) ∈ fo := by
  unfold swS
  rw [List.mem_map]
  constructor
  · rintro ⟨p, hp, e⟩
    cases e
    exact hp
  · intro h
    exact ⟨(y, x), h, rfl⟩
/-- from a lane on, the followers -/
def chF (fo : Tb) : Nat → Str → List Str
  | 0, l => [l]
  | n + 1, l => match getS (swS fo) l with
    | none => [l]
    | some y => l :: chF fo n y
/-- fo joins lanes of L in order -/
structure Jo (bh : Str → List Str) (L : List Str) (fo : Tb) : Prop where
  od : Od bh L
  ln : L.Nodup
  kn : (fo.map (·.1)).Nodup
  vn : (fo.map (·.2)).Nodup
  vs : ∀ v ∈ fo.map (·.2), v ∈ L
  ed : ∀ p ∈ fo, p.1 ∈ bh p.2
section
variable {bh : Str → List Str} {L : List Str} {fo : Tb}
theorem Jo.nx (j : Jo bh L fo) {x y : Str} (h : getS (swS fo) x = some y) : (y, x) ∈ fo ∧ y ∈ bh x ∧ y ∈ L := by
  have h1 := swS_mem.mp (getS_some h)
  have h2 : y ∈ bh x := j.ed _ h1
  exact ⟨h1, h2, j.od.sub x y h2⟩
theorem Jo.ch (j : Jo bh L fo) : ∀ (n : Nat) (l : Str), l ∈ L → (∀ x ∈ chF fo n l, x ∈ L ∧ (x = l ∨ x ∈ bh l)) ∧ (chF fo n l).Pairwise (fun a b => b ∈ bh a)
  | 0, l, hl => ⟨fun x hx => by rw [List.mem_singleton.mp hx]; exact ⟨hl, .inl rfl⟩, List.pairwise_singleton _ _⟩
  | n + 1, l, hl => by
    rw [chF]
    cases h : getS (swS fo) l with
    | none => exact ⟨fun x hx => by rw [List.mem_singleton.mp hx]; exact ⟨hl, .inl rfl⟩, List.pairwise_singleton _ _⟩
    | some y =>
      obtain ⟨_, hy, hyL⟩ := j.nx h
      obtain ⟨h1, h2⟩ := j.ch n y hyL
      have h3 : ∀ x ∈ chF fo n y, x ∈ bh l := fun x hx => by
        rcases (h1 x hx).2 with rfl | z
        · exact hy
        · exact j.od.tra hy z
      refine ⟨fun x hx => ?_, List.pairwise_cons.mpr ⟨h3, h2⟩⟩
      rcases List.mem_cons.mp hx with rfl | hx
      · exact ⟨hl, .inl rfl⟩
      · exact ⟨(h1 x hx).1, .inr (h3 x hx)⟩
end
/-- a state of the search over L -/
structure JOk (L : List Str) (s : Js) : Prop where
  kn : (s.fo.map (·.1)).Nodup
  ks : ∀ x ∈ s.fo.map (·.1), x ∈ L
  vs : ∀ x ∈ s.fo.map (·.2), x ∈ L
  tn : s.tr.Nodup
  ts : ∀ x ∈ s.tr, x ∈ L
theorem JOk.put {L : List Str} {s : Js} (h : JOk L s) {o u : Str} (ho : o ∈ L) (hu : u ∈ L) : JOk L ⟨putS s.fo o u, s.tr⟩ := by
  refine ⟨putS_nd h.kn, fun x hx => ?_, fun x hx => ?_, h.tn, h.ts⟩
  · rcases putS_has.mp hx with rfl | hx
    · exact ho
    · exact h.ks x hx
  · obtain ⟨p, hp, rfl⟩ := List.mem_map.mp hx
    rcases putS_mem (x := p.1) (w := p.2) hp with ⟨_, e⟩ | hp
    · rw [e]; exact hu
    · exact h.vs _ (List.mem_map.mpr ⟨_, hp, rfl⟩)
theorem JOk.len {L : List Str} {s : Js} (h : JOk L s) : s.tr.length ≤ L.length ∧ s.fo.length ≤ L.length := by
  refine ⟨nd_sub_len h.tn h.ts, ?_⟩
  have := nd_sub_len h.kn h.ks
  rwa [List.length_map] at this
end DL

/-! EX: two own objects of one class and an operator (own work). -/
namespace DL
open PySem L2 PySem.W
/-! ### x op y, both of one class of the text -/
section
variable {X : Cx} {CX : CXT} {k : Nat} {C f : Addr} {fd : FuncData} {ps : List Str} {sp : Sp} {E : XK} {Cc : Ct}
/-- x op= y -/
structure Io2 (K : PySem.W.Frag) (C : Addr) (op : Operator) (f : Addr) : Prop where
  first : selfFirst K C = true
  sm : Sm K C (dunderI op.info.2) f
end
/-! ### the same where what is raised may speak of the slots -/
section
variable {X : Cx} {k : Nat} {C f : Addr} {ps : List Str} {E : L2.St → XK} {Cc : Ct} {l r : Expr} {pos : Pos} {tl tr : TE}
end
/-! ### data -/
section
variable {K : PySem.W.Frag} {B F0 : Hp} {ro : Ro} {ka k1 k2 k3 kr : Cells} {ta : List (V × W)} {td te tf ty tx : TE} {De : Ends} {t u : TS} {w x y : W} {b b2 : Bool} {C : Addr} {fs gs : List (Str × D)} {d : D}
end
section
variable {K : PySem.W.Frag} {B F0 : Hp} {ro : Ro} {ka k1 k2 k3 kr : Cells} {ta : List (V × W)} {td te tf ty tx : TE} {De De' : Ends} {t u : TS} {w x y : W} {b b2 : Bool} {C C1 : Addr} {fs gs hs : List (Str × D)} {d : D}
end
end DL

/-! EY: patterns as trees, their words, the machine of atoms (own work). -/
namespace DL
open PySem L2 PySem.W
/-- a pattern: an atom (one of some names, or none of them), two behind one another, either, any number, one or none -/
inductive Tr where
  | at (any : Bool) (ns : List Str) | join (a b : Tr) | either (a b : Tr) | rep (a : Tr) | opt (a : Tr)
def kdS : Bool → Str
  | true => "any"
  | false => "none"
/-- as the program holds it (names a tuple), as the law holds it (names a list) -/
def Tr.d (law : Bool) : Tr → D
  | .at k ns => .tup [.str (kdS k), if law then .lst (stD ns) else .tup (stD ns)]
  | .join a b => .tup [.str "join", a.d law, b.d law]
  | .either a b => .tup [.str "either", a.d law, b.d law]
  | .rep a => .tup [.str "repeat", a.d law]
  | .opt a => .tup [.str "option", a.d law]
/-- nested operators -/
def Tr.dep : Tr → Nat
  | .at _ _ => 0
  | .join a b => max a.dep b.dep + 1
  | .either a b => max a.dep b.dep + 1
  | .rep a => a.dep + 1
  | .opt a => a.dep + 1
/-- an atom takes a name -/
def atB (p : Bool × List Str) (x : Str) : Bool := decide (x ∈ p.2) == p.1
/-- any number of words one behind another -/
inductive Str_ (P : List Str → Prop) : List Str → Prop where
  | nil : Str_ P []
  | snoc {u z : List Str} (h : Str_ P u) (hz : P z) : Str_ P (u ++ z)
/-- the machine: atoms, first and last ones, pairs, has it the empty word -/
structure Mc where
  at_ : List (Bool × List Str)
  fi : List Nat
  la : List Nat
  pr : List (Nat × Nat)
  op : Bool
def crN (xs ys : List Nat) : List (Nat × Nat) := xs.flatMap fun x => ys.map fun y => (x, y)
def mcT : Tr → Nat → Mc
  | .at k ns, s => ⟨[(k, ns)], [s], [s], [], false⟩
  | .rep a, s => let m := mcT a s; ⟨m.at_, m.fi, m.la, m.pr ++ crN m.la m.fi, true⟩
  | .opt a, s => let m := mcT a s; ⟨m.at_, m.fi, m.la, m.pr, true⟩
  | .either a b, s => let m := mcT a s; let n := mcT b (s + m.at_.length); ⟨m.at_ ++ n.at_, m.fi ++ n.fi, m.la ++ n.la, m.pr ++ n.pr, m.op || n.op⟩
  | .join a b, s => let m := mcT a s; let n := mcT b (s + m.at_.length)
    ⟨m.at_ ++ n.at_, if m.op then m.fi ++ n.fi else m.fi, if n.op then m.la ++ n.la else n.la, m.pr ++ n.pr ++ crN m.la n.fi, m.op && n.op⟩
/-- a way through the machine that reads w and ends at an atom -/
inductive Pth (T : Nat → Str → Bool) (fi : List Nat) (pr : List (Nat × Nat)) : List Str → Nat → Prop where
  | one {a : Nat} {x : Str} (h : a ∈ fi) (t : T a x = true) : Pth T fi pr [x] a
  | more {w : List Str} {a b : Nat} {x : Str} (h : Pth T fi pr w a) (hp : (a, b) ∈ pr) (t : T b x = true) : Pth T fi pr (w ++ [x]) b
theorem Pth.ne {T : Nat → Str → Bool} {fi : List Nat} {pr : List (Nat × Nat)} {w : List Str} {a : Nat} (h : Pth T fi pr w a) : w ≠ [] := by
  cases h <;> simp
/-- atoms within lo ≤ .. < hi -/
structure McR (m : Mc) (lo hi : Nat) : Prop where
  fi : ∀ a ∈ m.fi, lo ≤ a ∧ a < hi
  la : ∀ a ∈ m.la, lo ≤ a ∧ a < hi
  pr : ∀ p ∈ m.pr, (lo ≤ p.1 ∧ p.1 < hi) ∧ lo ≤ p.2 ∧ p.2 < hi
section
variable {T : Nat → Str → Bool} {fi fi2 fi' : List Nat} {pr pr2 pr' : List (Nat × Nat)} {w u v : List Str} {a c : Nat}
theorem Pth.mono (h : Pth T fi pr w c) (h1 : ∀ a ∈ fi, a ∈ fi') (h2 : ∀ p ∈ pr, p ∈ pr') : Pth T fi' pr' w c := by
  induction h with
  | one h t => exact .one (h1 _ h) t
  | more h hp t ih => exact .more ih (h2 _ hp) t
end
/-! ### the machine run -/
def tkM (m : Mc) (a : Nat) (x : Str) : Bool := match m.at_[a]? with
  | some p => atB p x
  | none => false
def behM (m : Mc) (ps : List Nat) (a : Nat) : Bool := ps.any fun p => decide ((p, a) ∈ m.pr)
def startM (m : Mc) (x : Str) : List Nat := m.fi.filter fun a => tkM m a x
def afterM (m : Mc) (ps : List Nat) (x : Str) : List Nat := (List.range m.at_.length).filter fun a => tkM m a x && behM m ps a
def doneM (m : Mc) (ps : List Nat) : Bool := ps.any fun p => decide (p ∈ m.la)
def runM (m : Mc) : List Str → List Nat
  | [] => []
  | x :: r => r.foldl (afterM m) (startM m x)
theorem run_snoc {m : Mc} {w : List Str} {x : Str} (h : w ≠ []) : runM m (w ++ [x]) = afterM m (runM m w) x := by
  cases w with
  | nil => exact absurd rfl h
  | cons y r =>
    show (r ++ [x]).foldl _ _ = _
    rw [List.foldl_append]
    rfl
end DL

/-! EZ: pairs of numbers as keys (own work). -/
namespace DL
open PySem L2 PySem.W
section
variable {K : PySem.W.Frag} {B F F0 : Hp} {ro : Ro} {ka k1 k2 k3 kr : Cells} {ta : List (V × W)} {sg : L2.St} {H H' : Hp} {te tf tg td ty tk tv : TE} {tt : TT} {w : W} {a : Addr} {b : Bool}
end
end DL

/-! FA: a list comprehension with two fors, by data, for the library's reading tLc2 (own work). -/
namespace DL
open PySem L2 PySem.W
section
variable {K : PySem.W.Frag} {B F F0 : Hp} {ro : Ro} {ka k1 k2 k3 kr : Cells} {ta : List (V × W)} {sg : L2.St} {H H' : Hp} {te : TE}
end
end DL

/-! FB: machines as data (own work). -/
namespace DL
open PySem L2 PySem.W
structure Fits (m : Mc) : Prop where
  a : m.at_.length ≤ 300
  f : m.fi.length ≤ 300
  l : m.la.length ≤ 300
  p : m.pr.length ≤ 90000
/-- a pattern small enough for its machine, and so are its parts -/
def Tr.sm : Tr → Prop
  | .at k ns => ns.length ≤ 1000
  | .join a b => a.sm ∧ b.sm ∧ ∀ s, Fits (mcT (.join a b) s)
  | .either a b => a.sm ∧ b.sm ∧ ∀ s, Fits (mcT (.either a b) s)
  | .rep a => a.sm ∧ ∀ s, Fits (mcT (.rep a) s)
  | .opt a => a.sm ∧ ∀ s, Fits (mcT (.opt a) s)
theorem Tr.sm.fits {t : Tr} (h : t.sm) (s : Nat) : Fits (mcT t s) := by
  cases t with
  | «at» k ns => exact ⟨by show 1 ≤ 300; decide, by show 1 ≤ 300; decide, by show 1 ≤ 300; decide, by show 0 ≤ 90000; decide⟩
  | join a b => exact h.2.2 s
  | either a b => exact h.2.2 s
  | rep a => exact h.2 s
  | opt a => exact h.2 s
/-! sizes -/
def Tr.ats : Tr → Nat
  | .at _ _ => 1
  | .join a b => a.ats + b.ats
  | .either a b => a.ats + b.ats
  | .rep a => a.ats
  | .opt a => a.ats
theorem mc_at_len : ∀ (t : Tr) (s : Nat), (mcT t s).at_.length = t.ats
  | .at _ _, _ => rfl
  | .rep a, s => mc_at_len a s
  | .opt a, s => mc_at_len a s
  | .either a b, s => by
    show (_ ++ _ : List _).length = _
    rw [List.length_append, mc_at_len a, mc_at_len b]
    rfl
  | .join a b, s => by
    show (_ ++ _ : List _).length = _
    rw [List.length_append, mc_at_len a, mc_at_len b]
    rfl
/-- all atoms hold few names -/
def Tr.few : Tr → Prop
  | .at _ ns => ns.length ≤ 1000
  | .join a b => a.few ∧ b.few
  | .either a b => a.few ∧ b.few
  | .rep a => a.few
  | .opt a => a.few
section
variable {K : PySem.W.Frag} {ro : Ro} {ka k1 k2 : Cells} {te tf : TE}
/-- list + list, both frozen -/
theorem ev_catL {ds es : List D} (h : EvD K te ro ka (.val (.lst ds)) k1) (h2 : EvD K tf ro k1 (.val (.lst es)) k2) (hz : ds.length + es.length ≤ 100000) : EvD K (tOp (rAddU K) te tf) ro ka (.val (.lst (ds ++ es))) k2 := (evn_op h h2 (rvn_cat (b1 := false) (b2 := false) .vl .vl hz)).lst
theorem En.freeze_t {B F0 : Hp} {ta : List (V × W)} {sg : L2.St} {H : Hp} {a : Addr} {ds : List (List Key × D)} (e : En K B F0 ro (ka ++ [(a, .dit ds)]) ta sg H) : En K B F0 ro ka ((.ref a, .val (.dit ds)) :: ta) sg H := by
  obtain ⟨F, g, e⟩ := e
  obtain ⟨fa, ba, xs, ha, rl⟩ := e.ce (a, .dit ds) (by simp)
  have gg : Gr B F (upd F a (.dT xs)) := ⟨Sub.new fa, fun b h1 h2 => by
    have ne : b ≠ a := fun q => h2 (q ▸ ba)
    rw [upd_ne ne]
    exact h1⟩
  have nd2 := e.nd
  rw [List.map_append, List.nodup_append] at nd2
  refine ⟨upd F a (.dT xs), g.trans gg, ⟨fun b u h => ?_, fun b u h => ?_, e.fr, nd2.1, fun q hq => ?_, e.ln, fun i w h => ?_, fun q hq => ?_⟩⟩
  · by_cases hb : b = a
    · subst hb; rw [upd_same] at h; cases h; rfl
    · rw [upd_ne hb] at h; exact e.nz b u h
  · by_cases hb : b = a
    · subst hb; rw [upd_same] at h; cases h; exact .inl ha
    · rw [upd_ne hb] at h; exact e.fz b u h
  · obtain ⟨h1, h2, h3⟩ := e.ce q (List.mem_append_left _ hq)
    have nq : q.1 ≠ a := fun z => nd2.2.2 q.1 (List.mem_map.mpr ⟨q, hq, rfl⟩) a (by simp) z
    exact ⟨by rw [upd_ne nq]; exact h1, h2, ndok_gr e.nz gg h3⟩
  · obtain ⟨v, h1, h2⟩ := e.sl i w h
    exact ⟨v, h1, wok_gr e.nz gg h2⟩
  · rcases List.mem_cons.mp hq with rfl | hq
    · exact ⟨a, xs, rfl, .inl upd_same, RpT.mono gg.sub.exz e.nz _ _ rl⟩
    · exact wok_gr e.nz gg (e.tm q hq)
theorem EvN.dit {ds : List (List Key × D)} (h : EvN K te ro ka (.dit ds) k1) : EvD K te ro ka (.val (.dit ds)) k1 := fun B F0 ta sg H Q e q => h B F0 ta sg H Q e fun a H1 e1 => q _ _ e1.freeze_t
end
section
variable {K : PySem.W.Frag} {ro : Ro} {ka k1 k2 : Cells} {te tf : TE} {y : W}
end
theorem EvI.ws {K : PySem.W.Frag} {wi : TI} {ro : Ro} {ka k1 : Cells} {ws ws' : List W} {C : Cells → Prop} (h : EvI K wi ro ka ws C k1) (e : ws = ws') : EvI K wi ro ka ws' C k1 := e ▸ h
end DL

/-! FC: where the words of a pattern end (own work). -/
namespace DL
open PySem L2 PySem.W
/-- steps one behind another -/
inductive Stp (R : Nat → Nat → Prop) (s : Nat) : Nat → Prop where
  | nil : Stp R s s
  | snoc {m k : Nat} (h : Stp R s m) (hr : R m k) : Stp R s k
end DL

/-! FD: {x: True for x in xs}, xs a list of tuples: the library's DictComp_goesN with the hand layer's state as what holds at each turn (own work). -/
namespace DL
open PySem L2 PySem.W PyProof.Rows
section
variable {X : Cx}
end
end DL
namespace DL
open PySem L2 PySem.W
section
variable {K : PySem.W.Frag} {B F F0 : Hp} {ro : Ro} {ka k1 k2 : Cells} {ta : List (V × W)} {sg : L2.St} {H H' : Hp} {te : TE}
end
end DL

/-! FE: the ends of a pattern's words, as the law counts them (own work). -/
namespace DL
open PySem L2 PySem.W
/-- the places not there yet, appended -/
def addN (acc : List Nat) (ps : List Nat) : List Nat := ps.foldl (fun acc p => if p ∈ acc then acc else acc ++ [p]) acc
theorem addN_cons (acc : List Nat) (p : Nat) (ps : List Nat) : addN acc (p :: ps) = addN (if p ∈ acc then acc else acc ++ [p]) ps := rfl
theorem addN_ext (ps : List Nat) : ∀ acc, ∃ r, addN acc ps = acc ++ r := by
  induction ps with
  | nil => exact fun acc => ⟨[], (List.append_nil _).symm⟩
  | cons p ps ih =>
    intro acc
    rw [addN_cons]
    split
    · exact ih acc
    · obtain ⟨r, e⟩ := ih (acc ++ [p])
      exact ⟨p :: r, by rw [e, List.append_assoc]; rfl⟩
theorem addN_mem {x : Nat} (ps : List Nat) : ∀ acc, x ∈ addN acc ps ↔ x ∈ acc ∨ x ∈ ps := by
  induction ps with
  | nil => exact fun acc => by simp [addN]
  | cons p ps ih =>
    intro acc
    rw [addN_cons, ih]
    split
    · rename_i h
      simp only [List.mem_cons]
      constructor
      · rintro (z | z)
        · exact .inl z
        · exact .inr (.inr z)
      · rintro (z | rfl | z)
        · exact .inl z
        · exact .inl h
        · exact .inr z
    · simp only [List.mem_append, List.mem_cons, List.not_mem_nil, or_false]
      rw [or_assoc]
theorem addN_nodup (ps : List Nat) : ∀ acc, acc.Nodup → (addN acc ps).Nodup := by
  induction ps with
  | nil => exact fun acc h => h
  | cons p ps ih =>
    intro acc h
    rw [addN_cons]
    split
    · exact ih acc h
    · rename_i hp
      refine ih _ (List.nodup_append.mpr ⟨h, by simp, fun a ha b hb => ?_⟩)
      rw [List.mem_singleton.mp hb]
      exact fun z => hp (z ▸ ha)
structure RepI (f : Nat → List Nat) (L s n : Nat) (found : List Nat) (i : Nat) : Prop where
  nd : found.Nodup
  le : ∀ x ∈ found, x ≤ L
  st : s ∈ found
  sound : ∀ x ∈ found, Stp (fun m k => k ∈ f m) s x
  shut : ∀ j x, j < i → found[j]? = some x → ∀ k ∈ f x, k ∈ found
  at_ : i ≤ found.length
  fuel : L + 2 ≤ n + i
theorem RepI.next {f : Nat → List Nat} {L s n : Nat} {found : List Nat} {i p : Nat} (bd : ∀ m ≤ L, ∀ k ∈ f m, k ≤ L) (h : RepI f L s (n + 1) found i) (hp : found[i]? = some p) : RepI f L s n (addN found (f p)) (i + 1) := by
  have mp := List.mem_of_getElem? hp
  obtain ⟨r, er⟩ := addN_ext (f p) found
  have lt := (List.getElem?_eq_some_iff.mp hp).1
  refine ⟨addN_nodup _ _ h.nd, fun x hx => ?_, (addN_mem _ _).mpr (.inl h.st), fun x hx => ?_, fun j x hj hx k hk => ?_, ?_, by have := h.fuel; omega⟩
  · rcases (addN_mem _ _).mp hx with z | z
    · exact h.le x z
    · exact bd p (h.le p mp) x z
  · rcases (addN_mem _ _).mp hx with z | z
    · exact h.sound x z
    · exact .snoc (h.sound p mp) z
  · by_cases e : j = i
    · subst e
      rw [er, List.getElem?_append_left lt, hp] at hx
      cases hx
      exact (addN_mem _ _).mpr (.inr hk)
    · have lj : j < i := by omega
      rw [er, List.getElem?_append_left (by omega)] at hx
      exact (addN_mem _ _).mpr (.inl (h.shut j x lj hx k hk))
  · rw [er, List.length_append]
    omega
theorem Stp.imp {R S : Nat → Nat → Prop} {s L : Nat} (hs : s ≤ L) (hR : ∀ m k, m ≤ L → R m k → S m k ∧ k ≤ L) {k : Nat} (h : Stp R s k) : Stp S s k ∧ k ≤ L := by
  induction h with
  | nil => exact ⟨.nil, hs⟩
  | snoc _ hr ih =>
    obtain ⟨h1, h2⟩ := hR _ _ ih.2 hr
    exact ⟨.snoc ih.1 h1, h2⟩
end DL

/-! FF: defs with a star parameter, by contracts about the tuple (own work). -/
namespace DL
open PySem L2 PySem.W PyProof.Rows
/-- a contract about the tuple of all arguments, told by the arguments -/
def CtV (C : Ct) : Ct := fun ws ka out => ∃ ds : List D, ws = ds.map W.val ∧ ds.length ≤ 100000 ∧ C [.val (.tup ds)] ka out
/-- the def at f, which takes any number of arguments, keeps C of their tuple -/
def FnV (P : Program) (w : World) (K : PySem.W.Frag) (mg : Str → Option Value) (base : Heap) (k : Nat) (f : Addr) (C : Ct) : Prop := FnR P w K mg base (L2.CX P w) k f (spC K (CtV C))
section
variable {P : Program} {w : World} {K : PySem.W.Frag} {mg : Str → Option Value} {base : Heap} {f : Addr} {fd : FuncData} {x qual pv : Str} {params : Arguments} {body : List Stmt} {scope : Scope} {N : List Str} {k j : Nat} {C : Ct}
theorem FnV.up (F : FnV P w K mg base j f C) (h : j ≤ k) : FnV P w K mg base k f C := FnR.mono F h
end
section
variable {X : Cx} {k : Nat} {f : Addr} {C : Ct} {E : XK} {x : Str} {p pos : Pos} {e : Expr} {es : List Expr} {t : TA}
end
/-- trees as the law draws them: at each end one to three names, or none behind "none" -/
def niceT : Tr → Prop
  | .at k ns => ns.length ≤ 3 ∧ (k = true → ns ≠ []) ∧ ∀ n ∈ ns, isNm n = true
  | .join a b => niceT a ∧ niceT b
  | .either a b => niceT a ∧ niceT b
  | .rep a => niceT a
  | .opt a => niceT a
end DL

/-! FG: patterns turned about and multiplied (own work). -/
namespace DL
open PySem L2 PySem.W
end DL
namespace DL
open PySem L2 PySem.W
end DL

/-! FH: errors without fields handed on (own work). -/
namespace DL
open PySem L2 PySem.W
section
variable {K : PySem.W.Frag} {B F0 : Hp} {ro : Ro} {ka k1 k2 : Cells} {ta : List (V × W)} {te tf : TE} {tr : TA} {De : Ends} {u : TS} {C1 : Addr} {gs : List (Str × D)} {out : Oc} {E : XK} {w : W}
end
end DL

/-! FI: `is not` between truth values (own work). -/
namespace DL
open PySem L2 PySem.W
section
variable {K : PySem.W.Frag} {ro : Ro} {ka k1 k2 : Cells} {te tf : TE}
end
end DL

/-! FJ: dicts whose keys are tuples of any depth: read, asked, written (own work). -/
namespace DL
open PySem L2 PySem.W PyProof.Rows

/-! ### rows -/
/-- keys and values alone -/
def rowN {α : Type} (xs : List (NestedKey × Addr × α)) : List (NestedKey × α) := xs.map fun x => (x.1, x.2.2)
def setA {α : Type} (k : NestedKey) (v : α) (x : NestedKey × Addr × α) : NestedKey × Addr × α := if x.1 = k then (x.1, x.2.1, v) else x
/-- a key that stands keeps its place and its own thing -/
def putA {α : Type} (xs : List (NestedKey × Addr × α)) (k : NestedKey) (b : Addr) (v : α) : List (NestedKey × Addr × α) :=
  if hasT (rowN xs) k = true then xs.map (setA k v) else xs ++ [(k, b, v)]
section
variable {α : Type}
end
/-- a row of values as they are seen, as they lie -/
abbrev SeesN : List (NestedKey × Addr × V) → List (NestedKey × Addr × Value) → Prop := Paired fun p q => p.1 = q.1 ∧ p.2.1 = q.2.1 ∧ RelV p.2.2 q.2.2
theorem SeesN.has {xs : List (NestedKey × Addr × V)} {qs : List (NestedKey × Addr × Value)} (r : SeesN xs qs) (k : NestedKey) :
    (getT (rowN xs) k = none ∧ hasT (rowN xs) k = false ∧ atKey qs k = none) ∨ ∃ v p, getT (rowN xs) k = some v ∧ hasT (rowN xs) k = true ∧ atKey qs k = some p ∧ RelV v p.2 := by
  unfold SeesN at r
  induction r with
  | nil => exact .inl ⟨rfl, rfl, rfl⟩
  | @cons p q ps qs h t ih =>
    obtain ⟨h1, h2, h3⟩ := h
    by_cases e : p.1 = k
    · refine .inr ⟨p.2.2, q.2, ?_, ?_, ?_, h3⟩
      · show getT ((p.1, p.2.2) :: rowN ps) k = _
        simp [getT, e]
      · show hasT ((p.1, p.2.2) :: rowN ps) k = _
        simp [hasT, e]
      · have e2 : q.1 = k := h1.symm.trans e
        simp [atKey, e2]
    · have e2 : ¬ q.1 = k := fun z => e (h1.trans z)
      have a1 : getT (rowN (p :: ps)) k = getT (rowN ps) k := by
        show getT ((p.1, p.2.2) :: rowN ps) k = _
        simp [getT, e]
      have a2 : hasT (rowN (p :: ps)) k = hasT (rowN ps) k := by
        show hasT ((p.1, p.2.2) :: rowN ps) k = _
        simp [hasT, e]
      have a3 : atKey (q :: qs) k = atKey qs k := by simp [atKey, e2]
      rw [a1, a2, a3]
      exact ih
theorem SeesN.put {xs : List (NestedKey × Addr × V)} {qs : List (NestedKey × Addr × Value)} (r : SeesN xs qs) (k : NestedKey) (b : Addr) {v : V} {u : Value} (rv : RelV v u) : SeesN (putA xs k b v) (storedH qs k b u) := by
  have hh : hasT (rowN xs) k = (atKey qs k).isSome := by
    rcases r.has k with ⟨_, h, h2⟩ | ⟨_, _, _, h, h2, _⟩ <;> rw [h, h2] <;> rfl
  unfold putA storedH
  rw [hh]
  split
  · unfold SeesN at r
    clear hh
    rename_i hx
    clear hx
    induction r with
    | nil => exact .nil
    | @cons p q ps qs h t ih =>
      obtain ⟨h1, h2, h3⟩ := h
      refine .cons ?_ ih
      unfold putAt setA
      by_cases e : p.1 = k
      · rw [if_pos e, if_pos (h1.symm.trans e)]
        exact ⟨h1, h2, rv⟩
      · rw [if_neg e, if_neg fun z => e (h1.trans z)]
        exact ⟨h1, h2, h3⟩
  · exact Paired.snoc r ⟨rfl, rfl, rv⟩

/-- all its keys stand where they are told -/
def NAt (K : PySem.W.Frag) (H : Hp) (w : World) (a : Addr) (xs : List (NestedKey × Addr × V)) : Prop := Rd H a (DnO w a xs) ∧ ∀ x ∈ xs, RkN K H x.1 (.ref x.2.1) ∧ x.1.depth ≤ 8
section
variable {X : Cx} {pins : List (Addr × Obj)} {σ : L2.St} {H : Hp} {s : Shared} {a b : Addr} {xs : List (NestedKey × Addr × V)}
mutual
theorem key_is (I : L2.Inv X pins σ H s) : ∀ (k : NestedKey) (v : V) (u : Value), RkN X.K H k v → RelV v u → NestedIs s.heap k u
  | .none, _, _, h, r => by
    subst h
    cases (show _ = Value.none from r)
    exact .none
  | .num i, _, _, h, r => by
    subst h
    obtain ⟨t, rfl⟩ := (show ∃ t, _ = Value.int i t from r)
    exact .int i t
  | .text x, _, _, h, r => by
    subst h
    obtain ⟨t, rfl⟩ := (show ∃ t, _ = Value.str x t from r)
    exact .text x t
  | .tup ks, _, _, h, r => by
    obtain ⟨c, ys, rfl, h1, h2⟩ := h
    cases (show _ = Value.ref c from r)
    obtain ⟨its, rel, ⟨o, ho, hc, n, hd⟩, _⟩ := I.tuple h1
    exact .tup ho hc hd (by simpa using keys_are I ks ys its h2 rel)
theorem keys_are (I : L2.Inv X pins σ H s) : ∀ (ks : List NestedKey) (vs : List V) (us : List Value), RkL X.K H ks vs → Vals vs us → NestedAll s.heap ks us
  | [], _, us, h, r => by
    subst h
    cases r
    exact .nil
  | k :: ks, _, us, h, r => by
    obtain ⟨x, ys, rfl, h1, h2⟩ := h
    cases r with
    | cons r1 r2 => exact .cons (key_is I k x _ h1 r1) (keys_are I ks ys _ h2 r2)
end
end

section
variable {X : Cx} {o i value : Expr} {pos pos' : Pos} {td ty tv tk : TE}
end
end DL

/-! FK: dicts with nested keys, by data (own work). -/
namespace DL
open PySem L2 PySem.W

/-! ### keys as data -/
mutual
def nkD : NestedKey → D
  | .none => .non
  | .num i => .int i
  | .text s => .str s
  | .tup ks => .tup (nkDs ks)
def nkDs : List NestedKey → List D
  | [] => []
  | k :: ks => nkD k :: nkDs ks
end
section
variable {K : PySem.W.Frag} {F : Hp}
mutual
theorem rk_iff : ∀ (k : NestedKey) (v : V), RkN K F k v ↔ Rp K F (nkD k) v
  | .none, _ => Iff.rfl
  | .num _, _ => Iff.rfl
  | .text _, _ => Iff.rfl
  | .tup ks, v => ⟨fun ⟨a, xs, e, h1, h2⟩ => ⟨a, xs, e, h1, (rks_iff ks xs).mp h2⟩, fun ⟨a, xs, e, h1, h2⟩ => ⟨a, xs, e, h1, (rks_iff ks xs).mpr h2⟩⟩
theorem rks_iff : ∀ (ks : List NestedKey) (vs : List V), RkL K F ks vs ↔ RpL K F (nkDs ks) vs
  | [], _ => Iff.rfl
  | k :: ks, vs => ⟨fun ⟨x, ys, e, h1, h2⟩ => ⟨x, ys, e, (rk_iff k x).mp h1, (rks_iff ks ys).mp h2⟩, fun ⟨x, ys, e, h1, h2⟩ => ⟨x, ys, e, (rk_iff k x).mpr h1, (rks_iff ks ys).mpr h2⟩⟩
end
end
/-- numbers, texts as keys -/
def nmK (ns : List Nat) : NestedKey := .tup (ns.map fun (n : Nat) => .num (n : Int))
/-! ### rows -/
section
variable {K : PySem.W.Frag} {F : Hp}
theorem rpn_keys : ∀ {ds : List (NestedKey × D)} {xs : List (NestedKey × Addr × V)}, RpN K F ds xs → ∀ x ∈ xs, RkN K F x.1 (.ref x.2.1) ∧ x.1.depth ≤ 8
  | [], xs, h => by rw [show xs = [] from h]; exact fun _ hx => nomatch hx
  | (k, d) :: ds, xs, h => by
    obtain ⟨b, x, ys, rfl, h0, h1, h2⟩ := h
    intro y hy
    rcases List.mem_cons.mp hy with rfl | hy
    · exact h0
    · exact rpn_keys h2 y hy
end

/-! ### read and written -/
/-- w is a dict of ds with nested keys; b: viewed -/
inductive Dn (wd : World) (ka : Cells) : W → List (NestedKey × D) → Bool → Prop where
  | v {ds : List (NestedKey × D)} : Dn wd ka (.val (.din wd ds)) ds false
  | w {ds : List (NestedKey × D)} : Dn wd ka (.vw (.din wd ds)) ds true
  | ce {a : Addr} {ds : List (NestedKey × D)} (j : Nat) (h : ka[j]? = some (a, .din wd ds)) : Dn wd ka (.val (.adr a)) ds false
section
variable {wd : World} {K : PySem.W.Frag} {B B' F F' F0 : Hp} {ro ro' : Ro} {ka k1 k2 k3 kr : Cells} {ta : List (V × W)} {sg sg' : L2.St} {H H' : Hp} {te tf tg td ty tk tv : TE} {w x y z : W} {n m : Nd} {a : Addr} {b : Bool} {De : Ends} {t u : TS} {ds : List (NestedKey × D)} {k : NestedKey} {ks : List NestedKey} {d : D}
theorem Dn.get {v : V} (l : Dn wd ka w ds b) (e : EnF K B F ro ka ta sg H) (h : WOk K B F v w) : ∃ a xs, v = .ref a ∧ NAt K H wd a xs ∧ RpN K (if b then uni B F else F) ds xs := by
  cases l with
  | v =>
    obtain ⟨a, xs, rfl, h1, h2⟩ := h
    exact ⟨a, xs, rfl, ⟨e.fz.rd e.nz h1, fun x hx => ⟨RkN.mono e.fz e.nz _ _ (rpn_keys h2 x hx).1, (rpn_keys h2 x hx).2⟩⟩, h2⟩
  | w =>
    obtain ⟨a, xs, rfl, h1, h2⟩ := h
    have z := uni_exz e.fz e.fr
    have nz := uni_nz (B := B) e.nz
    exact ⟨a, xs, rfl, ⟨z.rd nz h1, fun x hx => ⟨RkN.mono z nz _ _ (rpn_keys h2 x hx).1, (rpn_keys h2 x hx).2⟩⟩, h2⟩
  | ce j hj =>
    obtain rfl : v = .ref _ := h
    obtain ⟨_, _, xs, h1, h2⟩ := e.ce _ (List.mem_of_getElem? hj)
    exact ⟨_, xs, rfl, ⟨.inl h1, fun x hx => ⟨RkN.mono e.fz e.nz _ _ (rpn_keys h2 x hx).1, (rpn_keys h2 x hx).2⟩⟩, h2⟩
/-- an expression that makes a new cell, as one that comes back with its place -/
theorem EvN.adr (h : EvN K te ro ka n k1) : EvR K te ro ka fun w k => ∃ c, w = .val (.adr c) ∧ k = k1 ++ [(c, n)] := fun B F0 ta sg H Q e q =>
  h B F0 ta sg H Q e fun c H' e1 => q _ _ _ _ ⟨c, rfl, rfl⟩ (e1.tmA c)
/-- a dict of nested keys, frozen -/
theorem En.freeze_n (e : En K B F0 ro (ka ++ [(a, .din wd ds)]) ta sg H) : En K B F0 ro ka ((.ref a, .val (.din wd ds)) :: ta) sg H := by
  obtain ⟨F, g, e⟩ := e
  obtain ⟨fa, ba, xs, ha, rl⟩ := e.ce (a, .din wd ds) (by simp)
  have gg : Gr B F (upd F a (DnO wd a xs)) := ⟨Sub.new fa, fun b h1 h2 => by
    have ne : b ≠ a := fun q => h2 (q ▸ ba)
    rw [upd_ne ne]
    exact h1⟩
  have nd2 := e.nd
  rw [List.map_append, List.nodup_append] at nd2
  refine ⟨_, g.trans gg, ⟨fun b u h => ?_, fun b u h => ?_, e.fr, nd2.1, fun q hq => ?_, e.ln, fun i w h => ?_, fun q hq => ?_⟩⟩
  · by_cases hb : b = a
    · subst hb; rw [upd_same] at h; cases h; rfl
    · rw [upd_ne hb] at h; exact e.nz b u h
  · by_cases hb : b = a
    · subst hb; rw [upd_same] at h; cases h; exact .inl ha
    · rw [upd_ne hb] at h; exact e.fz b u h
  · obtain ⟨h1, h2, h3⟩ := e.ce q (List.mem_append_left _ hq)
    have nq : q.1 ≠ a := fun z => nd2.2.2 q.1 (List.mem_map.mpr ⟨q, hq, rfl⟩) a (by simp) z
    exact ⟨by rw [upd_ne nq]; exact h1, h2, ndok_gr e.nz gg h3⟩
  · obtain ⟨v, h1, h2⟩ := e.sl i w h
    exact ⟨v, h1, wok_gr e.nz gg h2⟩
  · rcases List.mem_cons.mp hq with rfl | hq
    · exact ⟨a, xs, rfl, .inl upd_same, RpN.mono gg.sub.exz e.nz _ _ rl⟩
    · exact wok_gr e.nz gg (e.tm q hq)
theorem EvN.din (h : EvN K te ro ka (.din wd ds) k1) : EvD K te ro ka (.val (.din wd ds)) k1 := fun B F0 ta sg H Q e q => h B F0 ta sg H Q e fun a H1 e1 => q _ _ e1.freeze_n
end
end DL

/-! FL: searches by levels in plain Lean; sub-rows; what a machine has begun (own work). -/
namespace DL
open PySem L2 PySem.W

/-! ### sub-rows -/
def subs {α : Type} : List α → List (List α)
  | [] => [[]]
  | x :: xs => subs xs ++ (subs xs).map (x :: ·)
theorem subs_len {α : Type} : ∀ xs : List α, (subs xs).length = 2 ^ xs.length
  | [] => rfl
  | x :: xs => by
    rw [subs, List.length_append, List.length_map, subs_len xs, List.length_cons, Nat.pow_succ]
    omega
theorem flt_subs {α : Type} (p : α → Bool) : ∀ xs : List α, xs.filter p ∈ subs xs
  | [] => List.mem_singleton.mpr rfl
  | x :: xs => by
    rw [subs, List.filter_cons]
    split
    · exact List.mem_append_right _ (List.mem_map.mpr ⟨_, flt_subs p xs, rfl⟩)
    · exact List.mem_append_left _ (flt_subs p xs)
/-- different things out of a row are no more than it -/
theorem nd_sub {α : Type} [DecidableEq α] : ∀ {xs ys : List α}, xs.Nodup → (∀ x ∈ xs, x ∈ ys) → xs.length ≤ ys.length
  | [], _, _, _ => Nat.zero_le _
  | x :: xs, ys, hn, h => by
    have hx := h x List.mem_cons_self
    obtain ⟨h1, h2⟩ := List.nodup_cons.mp hn
    have := nd_sub (ys := ys.erase x) h2 fun y hy => (List.mem_erase_of_ne fun e => by subst e; exact h1 hy).mpr (h y (List.mem_cons_of_mem _ hy))
    rw [List.length_erase_of_mem hx] at this
    have := List.length_pos_of_mem hx
    rw [List.length_cons]
    omega

/-! ### ways along edges that have names -/
section
variable {α : Type} [DecidableEq α]
/-- from s by these names to v -/
inductive Pt (sc : α → List (Str × α)) (s : α) : List Str → α → Prop where
  | nil : Pt sc s [] s
  | snoc {ls : List Str} {x : α} {e : Str × α} (h : Pt sc s ls x) (he : e ∈ sc x) : Pt sc s (ls ++ [e.1]) e.2
/-- a search: the things met, each by a way; the first `at` are done, of the next the edges E -/
structure BIn (sc : α → List (Str × α)) (s : α) (at_ : Nat) (E : List (Str × α)) (qs : List (α × List Str)) : Prop where
  nd : (qs.map (·.1)).Nodup
  ini : qs[0]? = some (s, [])
  pt : ∀ q ∈ qs, Pt sc s q.2 q.1
  mono : ∀ (i j : Nat) (p q : α × List Str), i ≤ j → qs[i]? = some p → qs[j]? = some q → p.2.length ≤ q.2.length
  lev : ∀ c, qs[at_]? = some c → ∀ q ∈ qs, q.2.length ≤ c.2.length + 1
  cl : ∀ (i : Nat) (c : α × List Str), i < at_ → qs[i]? = some c → ∀ e ∈ sc c.1, ∃ q ∈ qs, q.1 = e.2 ∧ q.2.length ≤ c.2.length + 1
  cE : ∀ c, qs[at_]? = some c → ∀ e ∈ E, ∃ q ∈ qs, q.1 = e.2 ∧ q.2.length ≤ c.2.length + 1
variable {sc : α → List (Str × α)} {s : α} {at_ : Nat} {E : List (Str × α)} {qs : List (α × List Str)}
theorem BIn.start (sc : α → List (Str × α)) (s : α) : BIn sc s 0 [] [(s, [])] where
  nd := by simp
  ini := rfl
  pt := fun q hq => by
    rw [List.mem_singleton.mp hq]
    exact .nil
  mono := fun i j p q _ hp hq => by
    have h1 := List.mem_of_getElem? hp
    have h2 := List.mem_of_getElem? hq
    rw [List.mem_singleton.mp h1, List.mem_singleton.mp h2]
    exact Nat.le_refl _
  lev := fun c hc q hq => by
    rw [List.mem_singleton.mp hq]
    exact Nat.zero_le _
  cl := fun i c h => by omega
  cE := fun c _ e he => nomatch he
/-- an edge to what was met -/
theorem BIn.old (b : BIn sc s at_ E qs) {e : Str × α} (h : e.2 ∈ qs.map (·.1)) : BIn sc s at_ (E ++ [e]) qs := { b with
  cE := fun c hc e' he => by
    rcases List.mem_append.mp he with he | he
    · exact b.cE c hc e' he
    · rw [List.mem_singleton.mp he]
      obtain ⟨q, hq, e1⟩ := List.mem_map.mp h
      exact ⟨q, hq, e1, b.lev c hc q hq⟩ }
/-- an edge to a new thing -/
theorem BIn.new (b : BIn sc s at_ E qs) {c : α × List Str} (hc : qs[at_]? = some c) {e : Str × α} (he : e ∈ sc c.1) (h : e.2 ∉ qs.map (·.1)) : BIn sc s at_ (E ++ [e]) (qs ++ [(e.2, c.2 ++ [e.1])]) := by
  have hlt : at_ < qs.length := (List.getElem?_eq_some_iff.mp hc).1
  have old : ∀ {i : Nat} {x : α × List Str}, i < qs.length → (qs ++ [(e.2, c.2 ++ [e.1])])[i]? = some x → qs[i]? = some x := fun hi hx => by rwa [List.getElem?_append_left hi] at hx
  have hc' : ∀ x, (qs ++ [(e.2, c.2 ++ [e.1])])[at_]? = some x → x = c := fun x hx => by
    have := old hlt hx
    rw [hc] at this
    exact (Option.some.inj this).symm
  refine ⟨?_, ?_, fun q hq => ?_, fun i j p q hij hp hq => ?_, fun x hx q hq => ?_, fun i x hi hx e' he' => ?_, fun x hx e' he' => ?_⟩
  · rw [List.map_append, List.nodup_append]
    exact ⟨b.nd, by simp, fun x hx y hy => by
      rw [List.map_cons, List.map_nil, List.mem_singleton] at hy
      rintro rfl
      rw [hy] at hx
      exact h hx⟩
  · rw [List.getElem?_append_left (Nat.lt_of_le_of_lt (Nat.zero_le _) hlt)]
    exact b.ini
  · rcases List.mem_append.mp hq with hq | hq
    · exact b.pt q hq
    · rw [List.mem_singleton.mp hq]
      exact .snoc (b.pt c (List.mem_of_getElem? hc)) he
  · have key : ∀ {k : Nat} {x : α × List Str}, (qs ++ [(e.2, c.2 ++ [e.1])])[k]? = some x → (k < qs.length ∧ qs[k]? = some x) ∨ (k = qs.length ∧ x = (e.2, c.2 ++ [e.1])) := fun {k x} hx => by
      by_cases hk : k < qs.length
      · exact .inl ⟨hk, old hk hx⟩
      · have hk2 := (List.getElem?_eq_some_iff.mp hx).1
        rw [List.length_append, List.length_singleton] at hk2
        have hk3 : k = qs.length := by omega
        subst hk3
        rw [List.getElem?_append_right (Nat.le_refl _), Nat.sub_self] at hx
        exact .inr ⟨rfl, (Option.some.inj hx).symm⟩
    rcases key hp with ⟨h1, hp⟩ | ⟨h1, rfl⟩ <;> rcases key hq with ⟨h2, hq⟩ | ⟨h2, rfl⟩
    · exact b.mono i j p q hij hp hq
    · have := b.lev c hc p (List.mem_of_getElem? hp)
      rw [List.length_append, List.length_singleton]
      exact this
    · omega
    · exact Nat.le_refl _
  · rw [hc' x hx]
    rcases List.mem_append.mp hq with hq | hq
    · exact b.lev c hc q hq
    · rw [List.mem_singleton.mp hq, List.length_append]
      exact Nat.le_refl _
  · obtain ⟨q, hq, r⟩ := b.cl i x hi (old (by omega) hx) e' he'
    exact ⟨q, List.mem_append_left _ hq, r⟩
  · rw [hc' x hx]
    rcases List.mem_append.mp he' with he' | he'
    · obtain ⟨q, hq, r⟩ := b.cE c hc e' he'
      exact ⟨q, List.mem_append_left _ hq, r⟩
    · rw [List.mem_singleton.mp he']
      exact ⟨_, List.mem_append_right _ (List.mem_singleton.mpr rfl), rfl, by rw [List.length_append]; exact Nat.le_refl _⟩
/-- all edges of a thing are done -/
theorem BIn.next (b : BIn sc s at_ E qs) (hE : ∀ c, qs[at_]? = some c → ∀ e ∈ sc c.1, e ∈ E) (hlt : at_ < qs.length) : BIn sc s (at_ + 1) [] qs := by
  obtain ⟨c0, hc0⟩ : ∃ c, qs[at_]? = some c := ⟨_, List.getElem?_eq_getElem hlt⟩
  refine { b with lev := fun c hc q hq => ?_, cl := fun i c hi hc e he => ?_, cE := fun c _ e he => nomatch he }
  · have h1 := b.lev c0 hc0 q hq
    have h2 := b.mono at_ (at_ + 1) c0 c (Nat.le_succ _) hc0 hc
    omega
  · rcases Nat.lt_or_ge i at_ with h | h
    · exact b.cl i c h hc e he
    · have : i = at_ := by omega
      subst this
      exact b.cE c hc e (hE c hc e he)
/-- when all is done, all that can be met was met -/
theorem BIn.all (b : BIn sc s at_ [] qs) (h : qs.length ≤ at_) {ls : List Str} {v : α} (hp : Pt sc s ls v) : v ∈ qs.map (·.1) := by
  induction hp with
  | nil => exact List.mem_map.mpr ⟨_, List.mem_of_getElem? b.ini, rfl⟩
  | @snoc ls x e _ he ih =>
    obtain ⟨q, hq, rfl⟩ := List.mem_map.mp ih
    obtain ⟨i, hi⟩ := List.getElem?_of_mem hq
    have := (List.getElem?_eq_some_iff.mp hi).1
    obtain ⟨q', hq', e3, _⟩ := b.cl i q (by omega) hi e he
    exact List.mem_map.mpr ⟨q', hq', e3⟩
/-- things met out of a row: no more than it has -/
theorem BIn.few (b : BIn sc s at_ E qs) {N : List α} (h0 : s ∈ N) (hN : ∀ x ∈ N, ∀ e ∈ sc x, e.2 ∈ N) : qs.length ≤ N.length := by
  have := nd_sub (ys := N) b.nd fun x hx => by
    obtain ⟨q, hq, rfl⟩ := List.mem_map.mp hx
    have := b.pt q hq
    generalize q.1 = v at this
    generalize q.2 = ls at this
    induction this with
    | nil => exact h0
    | snoc _ he ih => exact hN _ ih _ he
  rwa [List.length_map] at this
end

/-! ### what is begun -/
def begM (m : Mc) (ps : List Nat) (x : Str) : List Nat := ((List.range m.at_.length).filter fun a => decide (a ∈ m.fi) || behM m ps a).filter fun a => tkM m a x
/-- the atoms by which the lane gone last is read -/
def stM (m : Mc) (ls : List Str) : List Nat := ls.foldl (begM m) []
end DL

/-! FM: dicts with nested keys: walked, copied (one entry), set beside the empty one (own work). -/
namespace DL
open PySem L2 PySem.W PyProof.Rows

section
variable {X : Cx} {pins : List (Addr × Obj)} {σ : L2.St} {H : Hp} {s : Shared} {d : Addr} {o : Obj} {xs : List (NestedKey × Addr × V)}
end
section
variable {X : Cx} {o i e tg : Expr} {pos pos' : Pos} {td ty tv tk : TE}
end

section
variable {K : PySem.W.Frag} {B F F0 : Hp} {ro : Ro} {ka k1 k2 k3 kr : Cells} {ta : List (V × W)} {sg : L2.St} {H H' : Hp} {te tf tg tk tv : TE} {tt : TT} {w x y : W} {n : Nd} {a : Addr} {b : Bool} {De : Ends} {u : TS} {wi : TI} {ws : List W}
end

/-! ### by data -/
section
variable {K : PySem.W.Frag} {B F F0 : Hp} {ro : Ro} {ka k1 k2 k3 kr : Cells} {ta : List (V × W)} {sg : L2.St} {H H' : Hp} {te tf tg tk tv : TE} {tt : TT} {w x y z : W} {a : Addr} {b : Bool} {wd : World} {ds : List (NestedKey × D)}
end
end DL

/-! FN: searches by levels of one distance; a machine told by a law (own work). -/
namespace DL
open PySem L2 PySem.W
section
variable {α : Type} [DecidableEq α] {sc : α → List (Str × α)} {s : α} {n : Nat} {L Kn N : List α} {G : α → Prop}
theorem pt_in (h0 : s ∈ N) (hN : ∀ x ∈ N, ∀ e ∈ sc x, e.2 ∈ N) {ls : List Str} {x : α} (h : Pt sc s ls x) : x ∈ N := by
  induction h with
  | nil => exact h0
  | snoc _ he ih => exact hN _ ih _ he
theorem pt_last {ls : List Str} {y : α} (h : Pt sc s ls y) : (ls = [] ∧ y = s) ∨ ∃ us x e, Pt sc s us x ∧ e ∈ sc x ∧ e.2 = y ∧ ls = us ++ [e.1] := by
  cases h with
  | nil => exact .inl ⟨rfl, rfl⟩
  | snoc h he => exact .inr ⟨_, _, _, h, he, rfl, rfl⟩
/-- L is what is met behind n steps and not earlier, Kn what is met behind n steps or earlier -/
structure LvI (sc : α → List (Str × α)) (s : α) (n : Nat) (L Kn : List α) : Prop where
  nd : Kn.Nodup
  sub : ∀ x ∈ L, x ∈ Kn
  ndL : L.Nodup
  pt : ∀ x ∈ L, ∃ ls, ls.length = n ∧ Pt sc s ls x
  rc : ∀ x ∈ Kn, ∃ ls, Pt sc s ls x
  kn : ∀ ls x, Pt sc s ls x → ls.length ≤ n → x ∈ Kn
  lv : ∀ x ∈ Kn, x ∈ L ∨ ∃ ls, ls.length < n ∧ Pt sc s ls x
theorem LvI.start (sc : α → List (Str × α)) (s : α) : LvI sc s 0 [s] [s] where
  nd := List.nodup_cons.mpr ⟨List.not_mem_nil, List.nodup_nil⟩
  ndL := List.nodup_cons.mpr ⟨List.not_mem_nil, List.nodup_nil⟩
  sub := fun _ h => h
  pt := fun x h => ⟨[], rfl, by rw [List.mem_singleton.mp h]; exact .nil⟩
  rc := fun x h => ⟨[], by rw [List.mem_singleton.mp h]; exact .nil⟩
  kn := fun ls x h hl => by
    rcases pt_last h with ⟨_, e⟩ | ⟨us, y, e, _, _, _, e2⟩
    · exact List.mem_singleton.mpr e
    · rw [e2, List.length_append, List.length_singleton] at hl
      omega
  lv := fun x h => .inl h
theorem LvI.next (h : LvI sc s n L Kn) {F : List α} (hF : ∀ y, y ∈ F ↔ ∃ x ∈ L, ∃ e ∈ sc x, e.2 = y) (nF : F.Nodup) {p : α → Bool} (hp : ∀ y, p y = true ↔ y ∉ Kn) : LvI sc s (n + 1) (F.filter p) (Kn ++ F.filter p) := by
  have new : ∀ x, x ∈ F.filter p ↔ x ∈ F ∧ x ∉ Kn := fun x => by rw [List.mem_filter, hp]
  have step : ∀ y ∈ F, ∃ ls, ls.length = n + 1 ∧ Pt sc s ls y := fun y hy => by
    obtain ⟨x, hx, e, he, rfl⟩ := (hF y).mp hy
    obtain ⟨ls, hl, hp⟩ := h.pt x hx
    exact ⟨ls ++ [e.1], by rw [List.length_append, hl]; rfl, hp.snoc he⟩
  refine ⟨?_, fun x hx => List.mem_append_right _ hx, nF.filter _, fun x hx => step x ((new x).mp hx).1, fun x hx => ?_, fun ls x hp hl => ?_, fun x hx => ?_⟩
  · rw [List.nodup_append]
    exact ⟨h.nd, nF.filter _, fun x hx y hy e => ((new y).mp hy).2 (e ▸ hx)⟩
  · rcases List.mem_append.mp hx with hx | hx
    · exact h.rc x hx
    · obtain ⟨ls, _, hp⟩ := step x ((new x).mp hx).1
      exact ⟨ls, hp⟩
  · by_cases hx : x ∈ Kn
    · exact List.mem_append_left _ hx
    · refine List.mem_append_right _ ((new x).mpr ⟨?_, hx⟩)
      rcases pt_last hp with ⟨e1, e2⟩ | ⟨us, y, e, hy, he, e2, e3⟩
      · exact absurd (h.kn [] x (by rw [e2]; exact .nil) (Nat.zero_le _)) hx
      · rw [e3, List.length_append, List.length_singleton] at hl
        rcases h.lv y (h.kn us y hy (by omega)) with hL | ⟨vs, hv, hy2⟩
        · exact (hF x).mpr ⟨y, hL, e, he, e2⟩
        · exact absurd (h.kn (vs ++ [e.1]) x (e2 ▸ hy2.snoc he) (by rw [List.length_append, List.length_singleton]; omega)) hx
  · rcases List.mem_append.mp hx with hx | hx
    · rcases h.lv x hx with hL | ⟨ls, hl, hp⟩
      · obtain ⟨ls, hl, hp⟩ := h.pt x hL
        exact .inr ⟨ls, by omega, hp⟩
      · exact .inr ⟨ls, by omega, hp⟩
    · exact .inl hx
theorem LvI.short (h : LvI sc s n [] Kn) : ∀ ls x, Pt sc s ls x → ∃ us, us.length < n ∧ Pt sc s us x := by
  intro ls x hp
  induction hp with
  | nil =>
    rcases h.lv s (h.kn [] s .nil (Nat.zero_le _)) with hL | hL
    · cases hL
    · exact hL
  | @snoc ls x e _ he ih =>
    obtain ⟨us, hu, hp⟩ := ih
    rcases h.lv e.2 (h.kn _ _ (hp.snoc he) (by rw [List.length_append, List.length_singleton]; omega)) with hL | hL
    · cases hL
    · exact hL
theorem LvI.few (h : LvI sc s n L Kn) (h0 : s ∈ N) (hN : ∀ x ∈ N, ∀ e ∈ sc x, e.2 ∈ N) : Kn.length ≤ N.length := nd_sub h.nd fun x hx => by
  obtain ⟨ls, hp⟩ := h.rc x hx
  exact pt_in h0 hN hp
end
/-! ### a machine as a law makes it -/
/-- the same machine, its parts in another order -/
structure McE (m n : Mc) : Prop where
  at_ : m.at_ = n.at_
  fi : ∀ a, a ∈ m.fi ↔ a ∈ n.fi
  la : ∀ a, a ∈ m.la ↔ a ∈ n.la
  pr : ∀ p, p ∈ m.pr ↔ p ∈ n.pr
  op : m.op = n.op
section
variable {m n : Mc}
theorem McE.tk (e : McE m n) (a : Nat) (x : Str) : tkM m a x = tkM n a x := by
  unfold tkM
  rw [e.at_]
theorem McE.beh (e : McE m n) (ps : List Nat) (a : Nat) : behM m ps a = behM n ps a := by
  unfold behM
  simp only [e.pr]
theorem McE.beg (e : McE m n) (ps : List Nat) (x : Str) : begM m ps x = begM n ps x := by
  unfold begM
  simp only [e.tk, e.beh, e.fi, e.at_]
theorem McE.done (e : McE m n) (ps : List Nat) : doneM m ps = doneM n ps := by
  unfold doneM
  simp only [e.la]
theorem McE.st (e : McE m n) (ls : List Str) : stM m ls = stM n ls := by
  unfold stM
  rw [show begM m = begM n from funext fun ps => funext fun x => e.beg ps x]
theorem McE.refl : McE m m := ⟨rfl, fun _ => Iff.rfl, fun _ => Iff.rfl, fun _ => Iff.rfl, rfl⟩
end
end DL

/-! FO: shortest words that part two machines, searched by levels, in plain Lean (own work). -/
namespace DL
open PySem L2 PySem.W

/-! ### sub-rows again -/
theorem subs_iff {α : Type} {xs ys : List α} : ys ∈ subs xs ↔ ys.Sublist xs := by
  induction xs generalizing ys with
  | nil => rw [subs, List.mem_singleton, List.sublist_nil]
  | cons x xs ih =>
    rw [subs, List.mem_append, List.mem_map]
    constructor
    · rintro (h | ⟨zs, h, rfl⟩)
      · exact (ih.mp h).cons _
      · exact (ih.mp h).cons_cons _
    · intro h
      cases h with
      | cons _ h => exact .inl (ih.mpr h)
      | cons_cons _ h => exact .inr ⟨_, ih.mpr h, rfl⟩
theorem mc_fi_sub : ∀ (t : Tr) (s : Nat), (mcT t s).fi.Sublist (List.range' s (mcT t s).at_.length)
  | .at k ns, s => List.Sublist.refl _
  | .rep a, s => mc_fi_sub a s
  | .opt a, s => mc_fi_sub a s
  | .either a b, s => by
    show ((mcT a s).fi ++ (mcT b (s + (mcT a s).at_.length)).fi).Sublist (List.range' s ((mcT a s).at_ ++ (mcT b (s + (mcT a s).at_.length)).at_).length)
    rw [List.length_append, ← List.range'_append_1]
    exact (mc_fi_sub a s).append (mc_fi_sub b _)
  | .join a b, s => by
    show (if (mcT a s).op then (mcT a s).fi ++ (mcT b (s + (mcT a s).at_.length)).fi else (mcT a s).fi).Sublist (List.range' s ((mcT a s).at_ ++ (mcT b (s + (mcT a s).at_.length)).at_).length)
    rw [List.length_append, ← List.range'_append_1]
    split
    · exact (mc_fi_sub a s).append (mc_fi_sub b _)
    · exact (mc_fi_sub a s).trans (List.sublist_append_left _ _)
theorem start_sub (t : Tr) (x : Str) : startM (mcT t 0) x ∈ subs (List.range (mcT t 0).at_.length) := by
  rw [subs_iff, List.range_eq_range']
  exact (List.filter_sublist).trans (mc_fi_sub t 0)
theorem after_sub (m : Mc) (ps : List Nat) (x : Str) : afterM m ps x ∈ subs (List.range m.at_.length) := flt_subs _ _

/-! ### words and what two machines make of them -/
abbrev P2 := List Nat × List Nat
def st2 (m n : Mc) (w : List Str) : P2 := (runM m w, runM n w)
def nx2 (m n : Mc) (p : P2) (x : Str) : P2 := (afterM m p.1 x, afterM n p.2 x)
theorem st2_snoc {m n : Mc} {w : List Str} {x : Str} (h : w ≠ []) : st2 m n (w ++ [x]) = nx2 m n (st2 m n w) x := by
  unfold st2 nx2
  rw [run_snoc h, run_snoc h]
/-- all pairs there can be -/
def p2All (m n : Mc) : List P2 := (subs (List.range m.at_.length)).flatMap fun a => (subs (List.range n.at_.length)).map fun b => (a, b)
theorem p2All_len (m n : Mc) : (p2All m n).length = 2 ^ m.at_.length * 2 ^ n.at_.length := by
  have key : ∀ (xs : List (List Nat)), (xs.flatMap fun a => (subs (List.range n.at_.length)).map fun b => (a, b)).length = xs.length * 2 ^ n.at_.length := fun xs => by
    induction xs with
    | nil => simp
    | cons x xs ih => rw [List.flatMap_cons, List.length_append, ih, List.length_map, subs_len, List.length_range, List.length_cons, Nat.add_mul, Nat.one_mul, Nat.add_comm]
  unfold p2All
  rw [key, subs_len, List.length_range]
theorem p2All_mem {m n : Mc} {p : P2} (h1 : p.1 ∈ subs (List.range m.at_.length)) (h2 : p.2 ∈ subs (List.range n.at_.length)) : p ∈ p2All m n :=
  List.mem_flatMap.mpr ⟨p.1, h1, List.mem_map.mpr ⟨p.2, h2, rfl⟩⟩
theorem st2_all (t u : Tr) {w : List Str} (h : w ≠ []) : st2 (mcT t 0) (mcT u 0) w ∈ p2All (mcT t 0) (mcT u 0) := by
  have key : ∀ (t : Tr) (w : List Str), w ≠ [] → runM (mcT t 0) w ∈ subs (List.range (mcT t 0).at_.length) := fun t w h => by
    obtain ⟨ys, y, rfl⟩ : ∃ ys y, w = ys ++ [y] := ⟨w.dropLast, w.getLast h, (List.dropLast_concat_getLast h).symm⟩
    by_cases e : ys = []
    · subst e
      exact start_sub t y
    · rw [run_snoc e]
      exact after_sub _ _ _
  exact p2All_mem (key t w h) (key u w h)

/-! ### the search -/
/-- words told so far; the first `at_` are done; ks: the pairs that were met -/
structure WIn (m n : Mc) (N : List Str) (at_ : Nat) (ks : List P2) (qs : List (List Str)) : Prop where
  ini : ∀ x ∈ N, [x] ∈ qs
  ne : ∀ q ∈ qs, q ≠ []
  mono : ∀ (i j : Nat) (p q : List Str), i ≤ j → qs[i]? = some p → qs[j]? = some q → p.length ≤ q.length
  lev : ∀ c, qs[at_]? = some c → ∀ q ∈ qs, q.length ≤ c.length + 1
  old : ∀ k ∈ ks, ∃ (j : Nat) (q : List Str), j < at_ ∧ qs[j]? = some q ∧ st2 m n q = k ∧ ∀ x ∈ N, q ++ [x] ∈ qs
  kn : ∀ (i : Nat) (c : List Str), i < at_ → qs[i]? = some c → st2 m n c ∈ ks
  cl : ∀ (i : Nat) (c : List Str), i < at_ → qs[i]? = some c → ∃ (j : Nat) (q : List Str), j ≤ i ∧ qs[j]? = some q ∧ st2 m n q = st2 m n c ∧ ∀ x ∈ N, q ++ [x] ∈ qs
  nd : ks.Nodup
  len : qs.length = N.length * (ks.length + 1)
  ll : ∀ q ∈ qs, q.length ≤ ks.length + 1
  lt : ∀ q ∈ qs, ∀ x ∈ q, x ∈ N
section
variable {m n : Mc} {N : List Str} {at_ : Nat} {ks : List P2} {qs : List (List Str)}
theorem WIn.start (m n : Mc) (N : List Str) : WIn m n N 0 [] (N.map fun x => [x]) where
  ini := fun x hx => List.mem_map.mpr ⟨x, hx, rfl⟩
  ne := fun q hq => by
    obtain ⟨x, _, rfl⟩ := List.mem_map.mp hq
    exact List.cons_ne_nil _ _
  mono := fun i j p q _ hp hq => by
    obtain ⟨x, _, rfl⟩ := List.mem_map.mp (List.mem_of_getElem? hp)
    obtain ⟨y, _, rfl⟩ := List.mem_map.mp (List.mem_of_getElem? hq)
    exact Nat.le_refl _
  lev := fun c _ q hq => by
    obtain ⟨x, _, rfl⟩ := List.mem_map.mp hq
    exact Nat.succ_le_succ (Nat.zero_le _)
  old := fun k hk => nomatch hk
  kn := fun i c h => absurd h (Nat.not_lt_zero _)
  cl := fun i c h => absurd h (Nat.not_lt_zero _)
  nd := List.nodup_nil
  len := by rw [List.length_map]; exact (Nat.mul_one _).symm
  ll := fun q hq => by
    obtain ⟨x, _, rfl⟩ := List.mem_map.mp hq
    exact Nat.le_refl _
  lt := fun q hq y hy => by
    obtain ⟨x, hx, rfl⟩ := List.mem_map.mp hq
    rw [List.mem_singleton.mp hy]
    exact hx
/-- a pair that was met -/
theorem WIn.again (b : WIn m n N at_ ks qs) {c : List Str} (hc : qs[at_]? = some c) (h : st2 m n c ∈ ks) : WIn m n N (at_ + 1) ks qs := { b with
  lev := fun d hd q hq => by
    have h1 := b.lev c hc q hq
    have h2 := b.mono at_ (at_ + 1) c d (Nat.le_succ _) hc hd
    omega
  old := fun k hk => by
    obtain ⟨j, q, h1, r⟩ := b.old k hk
    exact ⟨j, q, Nat.lt_succ_of_lt h1, r⟩
  kn := fun i d hi hd => by
    rcases Nat.lt_or_ge i at_ with g | g
    · exact b.kn i d g hd
    · have : i = at_ := by omega
      subst this
      rw [hc] at hd
      cases hd
      exact h
  cl := fun i d hi hd => by
    rcases Nat.lt_or_ge i at_ with g | g
    · exact b.cl i d g hd
    · have : i = at_ := by omega
      subst this
      rw [hc] at hd
      cases hd
      obtain ⟨j, q, h1, h2, h3, h4⟩ := b.old _ h
      exact ⟨j, q, Nat.le_of_lt h1, h2, h3, h4⟩ }
/-- a new pair -/
theorem WIn.new (b : WIn m n N at_ ks qs) {c : List Str} (hc : qs[at_]? = some c) (h : st2 m n c ∉ ks) : WIn m n N (at_ + 1) (ks ++ [st2 m n c]) (qs ++ N.map fun x => c ++ [x]) := by
  have hlt : at_ < qs.length := (List.getElem?_eq_some_iff.mp hc).1
  have up : ∀ {i : Nat} {x : List Str}, qs[i]? = some x → (qs ++ N.map fun x => c ++ [x])[i]? = some x := fun {i x} hx => by rwa [List.getElem?_append_left (List.getElem?_eq_some_iff.mp hx).1]
  have key : ∀ {k : Nat} {x : List Str}, (qs ++ N.map fun x => c ++ [x])[k]? = some x → (k < qs.length ∧ qs[k]? = some x) ∨ (qs.length ≤ k ∧ x.length = c.length + 1) := fun {k x} hx => by
    by_cases hk : k < qs.length
    · rw [List.getElem?_append_left hk] at hx
      exact .inl ⟨hk, hx⟩
    · rw [List.getElem?_append_right (Nat.le_of_not_lt hk)] at hx
      obtain ⟨y, _, rfl⟩ := List.mem_map.mp (List.mem_of_getElem? hx)
      exact .inr ⟨Nat.le_of_not_lt hk, by rw [List.length_append]; rfl⟩
  have low : ∀ {i : Nat} {x : List Str}, i < at_ + 1 → (qs ++ N.map fun x => c ++ [x])[i]? = some x → qs[i]? = some x := fun {i x} hi hx => by
    rcases key hx with ⟨_, h⟩ | ⟨h, _⟩
    · exact h
    · omega
  have le1 : ∀ {q : List Str}, q ∈ qs ++ N.map (fun x => c ++ [x]) → q.length ≤ c.length + 1 := fun {q} hq => by
    rcases List.mem_append.mp hq with hq | hq
    · exact b.lev c hc q hq
    · obtain ⟨y, _, rfl⟩ := List.mem_map.mp hq
      rw [List.length_append]
      exact Nat.le_refl _
  have own : ∀ x ∈ N, c ++ [x] ∈ qs ++ N.map (fun x => c ++ [x]) := fun x hx => List.mem_append_right _ (List.mem_map.mpr ⟨x, hx, rfl⟩)
  refine ⟨fun x hx => List.mem_append_left _ (b.ini x hx), fun q hq => ?_, fun i j p q hij hp hq => ?_, fun d hd q hq => ?_, fun k hk => ?_, fun i d hi hd => ?_, fun i d hi hd => ?_, ?_, ?_, fun q hq => ?_, fun q hq z hz => ?_⟩
  · rcases List.mem_append.mp hq with hq | hq
    · exact b.ne q hq
    · obtain ⟨y, _, rfl⟩ := List.mem_map.mp hq
      simp
  · rcases key hp with ⟨h1, hp⟩ | ⟨h1, e1⟩ <;> rcases key hq with ⟨h2, hq⟩ | ⟨h2, e2⟩
    · exact b.mono i j p q hij hp hq
    · rw [e2]
      exact b.lev c hc p (List.mem_of_getElem? hp)
    · omega
    · omega
  · have h1 := le1 hq
    have h2 : c.length ≤ d.length := by
      rcases key hd with ⟨_, hd⟩ | ⟨_, e⟩
      · exact b.mono at_ (at_ + 1) c d (Nat.le_succ _) hc hd
      · omega
    omega
  · rcases List.mem_append.mp hk with hk | hk
    · obtain ⟨j, q, h1, h2, h3, h4⟩ := b.old k hk
      exact ⟨j, q, Nat.lt_succ_of_lt h1, up h2, h3, fun x hx => List.mem_append_left _ (h4 x hx)⟩
    · rw [List.mem_singleton.mp hk]
      exact ⟨at_, c, Nat.lt_succ_self _, up hc, rfl, own⟩
  · have hd' := low hi hd
    rcases Nat.lt_or_ge i at_ with g | g
    · exact List.mem_append_left _ (b.kn i d g hd')
    · have : i = at_ := by omega
      subst this
      rw [hc] at hd'
      cases hd'
      exact List.mem_append_right _ (List.mem_singleton.mpr rfl)
  · have hd' := low hi hd
    rcases Nat.lt_or_ge i at_ with g | g
    · obtain ⟨j, q, h1, h2, h3, h4⟩ := b.cl i d g hd'
      exact ⟨j, q, h1, up h2, h3, fun x hx => List.mem_append_left _ (h4 x hx)⟩
    · have : i = at_ := by omega
      subst this
      rw [hc] at hd'
      cases hd'
      exact ⟨i, c, Nat.le_refl _, up hc, rfl, own⟩
  · rw [List.nodup_append]
    exact ⟨b.nd, by simp, fun x hx y hy => by
      rintro rfl
      rw [List.mem_singleton.mp hy] at hx
      exact h hx⟩
  · rw [List.length_append, List.length_map, b.len, List.length_append, List.length_singleton, Nat.mul_succ N.length (ks.length + 1)]
  · rw [List.length_append, List.length_singleton]
    rcases List.mem_append.mp hq with hq | hq
    · exact Nat.le_succ_of_le (b.ll q hq)
    · obtain ⟨y, _, rfl⟩ := List.mem_map.mp hq
      rw [List.length_append]
      exact Nat.succ_le_succ (b.ll c (List.mem_of_getElem? hc))
  · rcases List.mem_append.mp hq with hq | hq
    · exact b.lt q hq z hz
    · obtain ⟨y, hy, rfl⟩ := List.mem_map.mp hq
      rcases List.mem_append.mp hz with hz | hz
      · exact b.lt c (List.mem_of_getElem? hc) z hz
      · rw [List.mem_singleton.mp hz]
        exact hy
/-- every word is met, or one no longer is still to come -/
theorem WIn.met (b : WIn m n N at_ ks qs) {w : List Str} (hne : w ≠ []) (hN : ∀ x ∈ w, x ∈ N) : ∃ (i : Nat) (q : List Str), qs[i]? = some q ∧ q.length ≤ w.length ∧ ((i < at_ ∧ st2 m n q = st2 m n w) ∨ at_ ≤ i) := by
  induction w using list_snoc_ind with
  | nil => exact absurd rfl hne
  | snoc w x ih =>
    have hx := hN x (List.mem_append_right _ (List.mem_singleton.mpr rfl))
    have fin : ∀ q, q ∈ qs → q.length ≤ (w ++ [x]).length → st2 m n q = st2 m n (w ++ [x]) → ∃ (i : Nat) (q : List Str), qs[i]? = some q ∧ q.length ≤ (w ++ [x]).length ∧ ((i < at_ ∧ st2 m n q = st2 m n (w ++ [x])) ∨ at_ ≤ i) := fun q hq hl he => by
      obtain ⟨i, hi⟩ := List.getElem?_of_mem hq
      rcases Nat.lt_or_ge i at_ with g | g
      · exact ⟨i, q, hi, hl, .inl ⟨g, he⟩⟩
      · exact ⟨i, q, hi, hl, .inr g⟩
    by_cases e : w = []
    · subst e
      exact fin [x] (b.ini x hx) (Nat.le_refl _) rfl
    · obtain ⟨i, q, hq, hl, h | h⟩ := ih e fun y hy => hN y (List.mem_append_left _ hy)
      · obtain ⟨j, p, h1, h2, h3, h4⟩ := b.cl i q h.1 hq
        have hp := List.mem_of_getElem? h2
        have hpl := b.mono j i p q h1 h2 hq
        refine fin (p ++ [x]) (h4 x hx) ?_ ?_
        · rw [List.length_append, List.length_append, List.length_singleton]
          omega
        · rw [st2_snoc (b.ne p hp), st2_snoc e, h3, h.2]
      · exact ⟨i, q, hq, by rw [List.length_append]; omega, .inr h⟩
theorem WIn.none (b : WIn m n N at_ ks qs) {G : P2 → Prop} (no : ∀ k ∈ ks, ¬ G k) (h : qs.length ≤ at_) {w : List Str} (hne : w ≠ []) (hN : ∀ x ∈ w, x ∈ N) : ¬ G (st2 m n w) := fun hg => by
  obtain ⟨i, q, hq, hl, g | g⟩ := b.met hne hN
  · exact no _ (b.kn i q g.1 hq) (g.2 ▸ hg)
  · have := (List.getElem?_eq_some_iff.mp hq).1
    omega
end

section
variable {t u : Tr} {one : Bool} {N : List Str} {f : Str} {at_ : Nat} {ks : List P2} {qs : List (List Str)}
end

/-! ### numbers as texts -/
def rStrI : List V → Hp → VK → Prop := fun xs H Q => ∃ i : Int, xs = [.int i] ∧ i.natAbs.log2 < 1920 ∧ Q (.str (toString i)) H
theorem call_strI {X : Cx} : CallR X (.type "str") rStrI := call_str_int
theorem ev_strI {K : PySem.W.Frag} {ro : Ro} {ka k1 : Cells} {te : TE} {i : Int} (h : EvD K te ro ka (.val (.int i)) k1) (hi : i.natAbs.log2 < 1920) : EvD K (tCB rStrI (tCons te tNil)) ro ka (.val (.str (toString i))) k1 := ev_cb (ea1 h) fun B F0 ro ta sg H us Q e hl hm q => by
  obtain ⟨u, rfl, hu⟩ := zip_one hl hm
  have := e.tm_int hu
  subst this
  exact ⟨i, rfl, hi, q _ _ (e.push_imm fun _ => rfl)⟩
end DL

/-! FP: what machines of like trees make of words; how many pairs there are; how many ends (own work). -/
namespace DL
open PySem L2 PySem.W

section
variable {m n : Mc}
end
theorem run_rep2 (a : Tr) (w : List Str) : runM (mcT (.rep (.rep a)) 0) w = runM (mcT (.rep a) 0) w := by
  have af : ∀ ps x, afterM (mcT (.rep (.rep a)) 0) ps x = afterM (mcT (.rep a) 0) ps x := fun ps x => by
    refine List.filter_congr fun b _ => ?_
    have : behM (mcT (.rep (.rep a)) 0) ps b = behM (mcT (.rep a) 0) ps b := by
      unfold behM
      rw [Bool.eq_iff_iff, List.any_eq_true, List.any_eq_true]
      constructor
      · rintro ⟨p, hp, h⟩
        refine ⟨p, hp, decide_eq_true ?_⟩
        rcases List.mem_append.mp (of_decide_eq_true h) with h | h
        · exact h
        · exact List.mem_append_right _ h
      · rintro ⟨p, hp, h⟩
        exact ⟨p, hp, decide_eq_true (List.mem_append_left _ (of_decide_eq_true h))⟩
    rw [this]
    rfl
  have fold : ∀ (r : List Str) (ps : List Nat), r.foldl (afterM (mcT (.rep (.rep a)) 0)) ps = r.foldl (afterM (mcT (.rep a) 0)) ps := fun r => by
    induction r with
    | nil => exact fun _ => rfl
    | cons x r ih => exact fun ps => by rw [List.foldl_cons, List.foldl_cons, af, ih]
  cases w with
  | nil => rfl
  | cons x r => exact fold r _

/-! ### how many pairs there are -/
/-- all that two machines make of words stands in a row of c pairs -/
def PrOk (t u : Tr) (c : Nat) : Prop := ∃ PA : List P2, PA.length ≤ c ∧ ∀ w, w ≠ [] → st2 (mcT t 0) (mcT u 0) w ∈ PA
theorem PrOk.up {t u : Tr} {c d : Nat} (h : PrOk t u c) (hd : c ≤ d) : PrOk t u d := by
  obtain ⟨PA, h1, h2⟩ := h
  exact ⟨PA, by omega, h2⟩
theorem PrOk.all (t u : Tr) : PrOk t u (2 ^ t.ats * 2 ^ u.ats) := ⟨p2All (mcT t 0) (mcT u 0), by rw [p2All_len, mc_at_len, mc_at_len]; exact Nat.le_refl _, fun w h => st2_all t u h⟩
theorem PrOk.swap {t u : Tr} {c : Nat} (h : PrOk t u c) : PrOk u t c := by
  obtain ⟨PA, h1, h2⟩ := h
  exact ⟨PA.map fun p => (p.2, p.1), by rw [List.length_map]; exact h1, fun w hw => List.mem_map.mpr ⟨_, h2 w hw, rfl⟩⟩
/-- what the second makes is told by what others make -/
theorem PrOk.by {t u v : Tr} {c : Nat} (h : PrOk t v c) (f : P2 → List Nat) (hf : ∀ w, runM (mcT u 0) w = f (st2 (mcT t 0) (mcT v 0) w)) : PrOk t u c := by
  obtain ⟨PA, h1, h2⟩ := h
  exact ⟨PA.map fun p => (p.1, f p), by rw [List.length_map]; exact h1, fun w hw => List.mem_map.mpr ⟨_, h2 w hw, by unfold st2; rw [hf]; rfl⟩⟩
theorem PrOk.same (t : Tr) : PrOk t t (2 ^ t.ats) := by
  refine ⟨(subs (List.range (mcT t 0).at_.length)).map fun a => (a, a), by rw [List.length_map, subs_len, List.length_range, mc_at_len]; exact Nat.le_refl _, fun w hw => List.mem_map.mpr ⟨runM (mcT t 0) w, ?_, rfl⟩⟩
  have := st2_all t t hw
  obtain ⟨a, ha, h⟩ := List.mem_flatMap.mp this
  obtain ⟨b, hb, e⟩ := List.mem_map.mp h
  rw [← show a = runM (mcT t 0) w from congrArg Prod.fst e]
  exact ha
theorem PrOk.opt (t : Tr) : PrOk t (.opt t) (2 ^ t.ats) := (PrOk.same t).by (fun p => p.2) fun w => rfl
theorem PrOk.rep (t : Tr) : PrOk (.rep t) (.rep (.rep t)) (2 ^ t.ats) := (PrOk.same (.rep t)).by (fun p => p.2) fun w => run_rep2 t w
/-! ### how many ends there are -/
def EB (n : Nat) : Tr → Nat
  | .at _ _ => 1
  | .either a b => EB n a + EB n b
  | .opt a => EB n a + 1
  | .join a b => (n + 1) * EB n b
  | .rep a => n + 1
/-- the rows stay short -/
def EbOk (n : Nat) : Tr → Prop
  | .at _ _ => True
  | .either a b => EbOk n a ∧ EbOk n b ∧ EB n a + EB n b ≤ 90000
  | .opt a => EbOk n a ∧ EB n a + 1 ≤ 90000
  | .join a b => EbOk n a ∧ EbOk n b ∧ EB n a ≤ 50000 ∧ (n + 1) * EB n b ≤ 90000
  | .rep a => EbOk n a ∧ EB n a ≤ 90000
theorem EB_dep {n : Nat} (hn : 1 ≤ n) : ∀ {t : Tr}, (t.dep = 0 → EB n t ≤ 1) ∧ (t.dep ≤ 1 → EB n t ≤ n + 1) ∧ (t.dep ≤ 2 → EB n t ≤ (n + 1) * (n + 1))
  | .at kd ns => ⟨fun _ => Nat.le_refl _, fun _ => by show 1 ≤ _; omega, fun _ => by show 1 ≤ _; exact Nat.mul_pos (by omega) (by omega)⟩
  | .rep a => by
    refine ⟨fun h => (by cases h), fun h => Nat.le_refl _, fun h => ?_⟩
    show n + 1 ≤ (n + 1) * (n + 1)
    exact Nat.le_mul_of_pos_right _ (by omega)
  | .opt a => by
    obtain ⟨h0, h1, h2⟩ := EB_dep hn (t := a)
    refine ⟨fun h => (by cases h), fun h => ?_, fun h => ?_⟩
    · have := h0 (by have : a.dep + 1 ≤ 1 := h; omega)
      show EB n a + 1 ≤ _
      omega
    · have := h1 (by have : a.dep + 1 ≤ 2 := h; omega)
      show EB n a + 1 ≤ (n + 1) * (n + 1)
      have e : (n + 1) * (n + 1) = n * (n + 1) + (n + 1) := Nat.succ_mul n (n + 1)
      have : 1 ≤ n * (n + 1) := Nat.mul_pos (by omega) (by omega)
      omega
  | .either a b => by
    obtain ⟨h0, h1, h2⟩ := EB_dep hn (t := a)
    obtain ⟨g0, g1, g2⟩ := EB_dep hn (t := b)
    refine ⟨fun h => (by cases h), fun h => ?_, fun h => ?_⟩
    · have h : max a.dep b.dep + 1 ≤ 1 := h
      have := h0 (by omega)
      have := g0 (by omega)
      show EB n a + EB n b ≤ _
      omega
    · have h : max a.dep b.dep + 1 ≤ 2 := h
      have := h1 (by omega)
      have := g1 (by omega)
      show EB n a + EB n b ≤ (n + 1) * (n + 1)
      have e : (n + 1) * (n + 1) = n * (n + 1) + (n + 1) := Nat.succ_mul n (n + 1)
      have : 1 * (n + 1) ≤ n * (n + 1) := Nat.mul_le_mul_right _ hn
      omega
  | .join a b => by
    obtain ⟨h0, h1, h2⟩ := EB_dep hn (t := a)
    obtain ⟨g0, g1, g2⟩ := EB_dep hn (t := b)
    refine ⟨fun h => (by cases h), fun h => ?_, fun h => ?_⟩
    · have h : max a.dep b.dep + 1 ≤ 1 := h
      have := g0 (by omega)
      show (n + 1) * EB n b ≤ n + 1
      calc (n + 1) * EB n b ≤ (n + 1) * 1 := Nat.mul_le_mul_left _ this
        _ = n + 1 := Nat.mul_one _
    · have h : max a.dep b.dep + 1 ≤ 2 := h
      have := g1 (by omega)
      exact Nat.mul_le_mul_left _ this
theorem sq_le {n : Nat} (h : n ≤ 256) : (n + 1) * (n + 1) ≤ 66049 := Nat.le_trans (Nat.mul_le_mul (show n + 1 ≤ 257 by omega) (show n + 1 ≤ 257 by omega)) (by decide)
/-- trees of at most two nested operators -/
theorem EbOk.dep {n : Nat} (h1 : 1 ≤ n) (hn : n ≤ 256) : ∀ {t : Tr}, t.dep ≤ 2 → EbOk n t
  | .at kd ns, _ => trivial
  | .rep a, h => by
    have h : a.dep + 1 ≤ 2 := h
    have := (EB_dep h1 (t := a)).2.1 (by omega)
    exact ⟨EbOk.dep h1 hn (by omega), by omega⟩
  | .opt a, h => by
    have h : a.dep + 1 ≤ 2 := h
    have := (EB_dep h1 (t := a)).2.1 (by omega)
    exact ⟨EbOk.dep h1 hn (by omega), by omega⟩
  | .either a b, h => by
    have h : max a.dep b.dep + 1 ≤ 2 := h
    have := (EB_dep h1 (t := a)).2.1 (by omega)
    have := (EB_dep h1 (t := b)).2.1 (by omega)
    exact ⟨EbOk.dep h1 hn (by omega), EbOk.dep h1 hn (by omega), by omega⟩
  | .join a b, h => by
    have h : max a.dep b.dep + 1 ≤ 2 := h
    have h3 := (EB_dep h1 (t := a)).2.1 (by omega)
    have h4 := (EB_dep h1 (t := b)).2.1 (by omega)
    have := sq_le hn
    exact ⟨EbOk.dep h1 hn (by omega), EbOk.dep h1 hn (by omega), by omega, Nat.le_trans (Nat.mul_le_mul_left _ h4) (by omega)⟩
theorem EB_mono {n m : Nat} (h : n ≤ m) : ∀ t : Tr, EB n t ≤ EB m t
  | .at _ _ => Nat.le_refl _
  | .either a b => Nat.add_le_add (EB_mono h a) (EB_mono h b)
  | .opt a => Nat.succ_le_succ (EB_mono h a)
  | .join a b => Nat.mul_le_mul (Nat.succ_le_succ h) (EB_mono h b)
  | .rep a => Nat.succ_le_succ h
theorem EbOk.mono {n m : Nat} (h : n ≤ m) : ∀ {t : Tr}, EbOk m t → EbOk n t
  | .at _ _, _ => trivial
  | .either a b, ⟨h1, h2, h3⟩ => ⟨h1.mono h, h2.mono h, Nat.le_trans (Nat.add_le_add (EB_mono h a) (EB_mono h b)) h3⟩
  | .opt a, ⟨h1, h3⟩ => ⟨h1.mono h, Nat.le_trans (Nat.succ_le_succ (EB_mono h a)) h3⟩
  | .join a b, ⟨h1, h2, h3, h4⟩ => ⟨h1.mono h, h2.mono h, Nat.le_trans (EB_mono h a) h3, Nat.le_trans (Nat.mul_le_mul (Nat.succ_le_succ h) (EB_mono h b)) h4⟩
  | .rep a, ⟨h1, h3⟩ => ⟨h1.mono h, Nat.le_trans (EB_mono h a) h3⟩

/-- a second tree beside a first one, as the law draws it -/
structure SecT (t u : Tr) : Prop where
  nt : niceT t
  nu : niceT u
  dt : t.dep ≤ 3
  du : u.dep ≤ 3
  at1 : t.ats ≤ 8
  at2 : u.ats ≤ 8
  pr : PrOk t u 256
  e1 : EbOk 256 t
  e2 : EbOk 256 u
theorem SecT.swap {t u : Tr} (h : SecT t u) : SecT u t := ⟨h.nu, h.nt, h.du, h.dt, h.at2, h.at1, h.pr.swap, h.e2, h.e1⟩
section
variable {t : Tr} (nt : niceT t) (dt : t.dep ≤ 2)
include nt dt
end
end DL

/-! FQ: {y: [] for y in ..} and {(y, ()): [] for y in ..} with nested keys, over lists, tuples and dicts; the library's DictComp_goesN with the hand layer's state at each turn (own work). -/
namespace DL
open PySem L2 PySem.W PyProof.Rows

/-- where the things come from -/
inductive DcOver (K : PySem.W.Frag) (H : Hp) (w : World) (l : Addr) (xs : List V) : Prop where
  | lst (h : SqL K H l xs)
  | tup (h : SqT K H l xs)
  | nest (rs : List (NestedKey × Addr × V)) (h : NAt K H w l rs) (e : xs = rs.map fun r => .ref r.2.1)
section
variable {X : Cx}
end
end DL

/-! FR: rules by data: {y: [] ..} with nested keys, list.pop, frozen dicts of lists with nested keys, dicts keyed by numbers (own work). -/
namespace DL
open PySem L2 PySem.W PyProof.Rows

section
variable {wd : World} {K : PySem.W.Frag} {B F F0 : Hp} {ro : Ro} {ka k1 k2 : Cells} {ta : List (V × W)} {sg : L2.St} {H : Hp} {te : TE} {w0 : W}
end

section
variable {wd : World} {K : PySem.W.Frag} {B F F0 : Hp} {ro : Ro} {ka k1 k2 k3 : Cells} {ta : List (V × W)} {sg : L2.St} {H : Hp} {te td ty tk tv tf : TE} {tt : TT} {tr : TA} {w x y : W} {a C : Addr} {b : Bool} {De : Ends} {u : TS} {E : XK} {P : W → Cells → Prop} {ds : List (Key × D)} {c : Key} {d : D} {n : Nd}
/-! ### an own object called -/
theorem Fn.fr {Pg : Program} {mg : Str → Option Value} {base : Heap} {k : Nat} {f : Addr} {ps : List Str} {Cc : Ct} (F : Fn Pg wd K mg base k f ps Cc) : FnR Pg wd K mg base (L2.CX Pg wd) k f (spC K Cc) := by
  obtain ⟨fd, F, hb⟩ := F
  exact (F.raw hb .nil).imp fun vs H Q E h => by rw [List.append_nil]; exact h
/-! ### frozen: a dict of nested keys with what stands behind -/
def FzN (K : PySem.W.Frag) (kt : Cells) : List (NestedKey × D) → List (NestedKey × D) → Prop
  | [], es => es = []
  | (k, d) :: ds, es => ∃ e r, es = (k, e) :: r ∧ FzR K kt d e ∧ FzN K kt ds r
theorem FzN.rp {kt : Cells} (nz : Nz F) (t : Thw K F H kt) : ∀ {ds es : List (NestedKey × D)} {xs : List (NestedKey × Addr × V)}, FzN K kt ds es → RpN K F ds xs → RpN K (thF F H kt) es xs
  | [], es, xs, z, h => by
    obtain rfl : es = [] := z
    exact h
  | (k, d) :: ds, es, xs, ⟨e, r, e1, z1, z2⟩, ⟨bb, x, ys, e2, h0, h1, h2⟩ => by
    subst e1
    exact ⟨bb, x, ys, e2, ⟨RkN.mono (thF_sub t.no).exz nz _ _ h0.1, h0.2⟩, z1.rp nz t h1, FzN.rp nz t z2 h2⟩
def FzK (K : PySem.W.Frag) (kt : Cells) : List (Key × D) → List (Key × D) → Prop
  | [], es => es = []
  | (k, d) :: ds, es => ∃ e r, es = (k, e) :: r ∧ FzR K kt d e ∧ FzK K kt ds r
theorem FzK.rp {kt : Cells} (nz : Nz F) (t : Thw K F H kt) : ∀ {ds es : List (Key × D)} {xs : List (Key × V)}, FzK K kt ds es → RpK K F ds xs → RpK K (thF F H kt) es xs
  | [], es, xs, z, h => by
    obtain rfl : es = [] := z
    exact h
  | (k, d) :: ds, es, xs, ⟨e, r, e1, z1, z2⟩, ⟨x, ys, e2, h1, h2⟩ => by
    subst e1
    exact ⟨x, ys, e2, z1.rp nz t h1, FzK.rp nz t z2 h2⟩
end
end DL

/-! FS: walks through all things, deepest first; lots of things that lead to one another, numbered; in plain Lean (own work). -/
namespace DL
section
variable {α : Type} [DecidableEq α]
/-- in n steps from x to y -/
inductive LdN (adj : α → List α) : Nat → α → α → Prop where
  | nil (x : α) : LdN adj 0 x x
  | cons {n : Nat} {x y z : α} (h : y ∈ adj x) (t : LdN adj n y z) : LdN adj (n + 1) x z
def Ld (adj : α → List α) (x y : α) : Prop := ∃ n, LdN adj n x y
variable {adj : α → List α}
theorem Ld.refl (x : α) : Ld adj x x := ⟨0, .nil x⟩
theorem Ld.step {x y : α} (h : y ∈ adj x) : Ld adj x y := ⟨1, .cons h (.nil y)⟩
theorem LdN.app {n m : Nat} {x y z : α} (h : LdN adj n x y) (t : LdN adj m y z) : ∃ k, LdN adj k x z := by
  induction h with
  | nil x => exact ⟨_, t⟩
  | cons h _ ih =>
    obtain ⟨k, hk⟩ := ih t
    exact ⟨_, .cons h hk⟩
theorem Ld.trans {x y z : α} (h : Ld adj x y) (t : Ld adj y z) : Ld adj x z := h.elim fun _ h => t.elim fun _ t => h.app t
theorem Ld.tail {x y z : α} (h : Ld adj x y) (t : z ∈ adj y) : Ld adj x z := h.trans (.step t)
theorem LdN.in_ {n : Nat} {x y : α} {V : List α} (h : LdN adj n x y) (cl : ∀ x ∈ V, ∀ y ∈ adj x, y ∈ V) (hx : x ∈ V) : y ∈ V := by
  induction h with
  | nil x => exact hx
  | cons h _ ih => exact ih (cl _ hx _ h)
/-- out of a set, there is a step -/
theorem LdN.cross {S : α → Prop} : ∀ {n : Nat} {x r : α}, LdN adj n x r → S x → ¬ S r → ∃ a b m, S a ∧ b ∈ adj a ∧ ¬ S b ∧ m < n ∧ LdN adj m b r ∧ Ld adj x b := by
  intro n
  induction n with
  | zero =>
    intro x r h hx hr
    cases h
    exact absurd hx hr
  | succ n ih =>
    intro x r h hx hr
    cases h with
    | @cons _ _ y _ hy t =>
      by_cases sy : S y
      · obtain ⟨a, b, m, h1, h2, h3, h4, h5, h6⟩ := ih t sy hr
        exact ⟨a, b, m, h1, h2, h3, by omega, h5, (Ld.step hy).trans h6⟩
      · exact ⟨x, y, n, hx, hy, sy, Nat.lt_succ_self _, t, .step hy⟩

/-! ### the order in which things are left -/
/-- all that is left by a moment leads to what is left by then, or to what leads to the one left then -/
def FinO (adj : α → List α) (order : List α) : Prop := ∀ (p : Nat) (x : α), order[p]? = some x → ∀ a ∈ order.take (p + 1), ∀ b ∈ adj a, b ∈ order.take (p + 1) ∨ Ld adj b x
/-- the last one left of all that are reached leads back -/
theorem FinO.back {order : List α} (F : FinO adj order) (nd : order.Nodup) (cl : ∀ x ∈ order, ∀ y ∈ adj x, y ∈ order) : ∀ (n : Nat) {x r : α}, x ∈ order → LdN adj n x r → (∀ z, Ld adj x z → order.idxOf z ≤ order.idxOf r) → Ld adj r x := by
  intro n
  induction n using Nat.strongRecOn with
  | _ n ih =>
    intro x r hx h mx
    have hr : r ∈ order := h.in_ cl hx
    have hp := List.idxOf_lt_length_of_mem hx
    have at_ : order[order.idxOf x]? = some x := by rw [List.getElem?_eq_getElem hp]; exact congrArg some (List.getElem_idxOf hp)
    have tk : ∀ {z : α}, z ∈ order.take (order.idxOf x + 1) ↔ z ∈ order ∧ order.idxOf z ≤ order.idxOf x := fun {z} => by
      constructor
      · intro hz
        have hz2 := List.mem_of_mem_take hz
        refine ⟨hz2, ?_⟩
        obtain ⟨i, hi⟩ := List.getElem?_of_mem hz
        rw [List.getElem?_take] at hi
        split at hi
        · rename_i lt
          have hl := (List.getElem?_eq_some_iff.mp hi).1
          have e := (List.getElem?_eq_some_iff.mp hi).2
          have : order.idxOf z = i := by
            have q := List.getElem_idxOf (List.idxOf_lt_length_of_mem hz2)
            exact (List.getElem_inj nd).mp (q.trans e.symm)
          omega
        · cases hi
      · rintro ⟨hz, hle⟩
        have hl := List.idxOf_lt_length_of_mem hz
        refine List.mem_of_getElem? (i := order.idxOf z) ?_
        rw [List.getElem?_take, if_pos (by omega), List.getElem?_eq_getElem hl]
        exact congrArg some (List.getElem_idxOf hl)
    by_cases hrt : r ∈ order.take (order.idxOf x + 1)
    · have h1 := (tk.mp hrt).2
      have h2 := mx x (Ld.refl x)
      have e : order.idxOf r = order.idxOf x := by omega
      have : r = x := by
        have q1 := List.getElem_idxOf (List.idxOf_lt_length_of_mem hr)
        have q2 := List.getElem_idxOf hp
        simp only [e] at q1
        exact q1.symm.trans q2
      rw [this]
      exact Ld.refl x
    · obtain ⟨a, b, m, h1, h2, h3, h4, h5, h6⟩ := h.cross (S := fun z => z ∈ order.take (order.idxOf x + 1)) (tk.mpr ⟨hx, Nat.le_refl _⟩) hrt
      have hb : b ∈ order := cl _ (List.mem_of_mem_take h1) _ h2
      rcases F _ x at_ a h1 b h2 with z | z
      · exact absurd z h3
      · exact (ih m h4 hb h5 fun z hz => mx z (h6.trans hz)).trans z
/-- on the way: what is left, what is known, what is open (the next place of each) -/
structure DfI (adj : α → List α) (V order known : List α) (stack : List (α × Nat)) : Prop where
  kn : ∀ x, x ∈ known ↔ x ∈ order ∨ x ∈ stack.map (·.1)
  nd : (order ++ stack.map (·.1)).Nodup
  kd : known.Nodup
  inV : ∀ x ∈ known, x ∈ V
  fin : ∀ a ∈ order, ∀ b ∈ adj a, b ∈ known
  F : FinO adj order
  ch : ∀ (pre post : List (α × Nat)) (s t : α × Nat), stack = pre ++ s :: t :: post → t.1 ∈ adj s.1
  pl : ∀ s ∈ stack, s.2 ≤ (adj s.1).length ∧ ∀ j b, j < s.2 → (adj s.1)[j]? = some b → b ∈ known
section
variable {V order known : List α} {stack : List (α × Nat)}
theorem list_nil_or_snoc {β : Type} (xs : List β) : xs = [] ∨ ∃ ys y, xs = ys ++ [y] := by
  by_cases h : xs = []
  · exact .inl h
  · exact .inr ⟨xs.dropLast, xs.getLast h, (List.dropLast_concat_getLast h).symm⟩
theorem snoc_split {β : Type} {xs pre post : List β} {x s t : β} (h : xs ++ [x] = pre ++ s :: t :: post) : (∃ post', xs = pre ++ s :: t :: post') ∨ (xs = pre ++ [s] ∧ x = t) := by
  rcases list_nil_or_snoc post with rfl | ⟨post', y, rfl⟩
  · right
    have h2 : xs ++ [x] = (pre ++ [s]) ++ [t] := by rw [h, List.append_assoc]; rfl
    exact ⟨List.append_inj_left' h2 rfl, by have := List.append_inj_right' h2 rfl; exact List.cons.inj this |>.1⟩
  · left
    have h2 : xs ++ [x] = (pre ++ s :: t :: post') ++ [y] := by rw [h, List.append_assoc]; rfl
    exact ⟨post', List.append_inj_left' h2 rfl⟩
/-- the top's next one is known -/
theorem DfI.old {st : List (α × Nat)} {s : α} {i : Nat} {b : α} (I : DfI adj V order known (st ++ [(s, i)])) (hb : (adj s)[i]? = some b) (hk : b ∈ known) : DfI adj V order known (st ++ [(s, i + 1)]) where
  kn := fun x => by
    have := I.kn x
    rw [List.map_append] at this ⊢
    exact this
  nd := by
    have := I.nd
    rw [List.map_append] at this ⊢
    exact this
  kd := I.kd
  inV := I.inV
  fin := I.fin
  F := I.F
  ch := fun pre post u t h => by
    rcases snoc_split h with ⟨post', h'⟩ | ⟨h1, h2⟩
    · exact I.ch pre (post' ++ [(s, i)]) u t (by rw [h', List.append_assoc]; rfl)
    · have := I.ch pre [] u (s, i) (by rw [h1, List.append_assoc]; rfl)
      rw [← h2]
      exact this
  pl := fun u hu => by
    rcases List.mem_append.mp hu with hu | hu
    · exact I.pl u (List.mem_append_left _ hu)
    · rw [List.mem_singleton.mp hu]
      have h0 := I.pl (s, i) (List.mem_append_right _ (List.mem_singleton.mpr rfl))
      refine ⟨(List.getElem?_eq_some_iff.mp hb).1, fun j c hj hc => ?_⟩
      rcases Nat.lt_or_ge j i with g | g
      · exact h0.2 j c g hc
      · have : j = i := by
          have hj : j < i + 1 := hj
          omega
        subst this
        have hc : (adj s)[j]? = some c := hc
        rw [hb] at hc
        cases hc
        exact hk
/-- the top's next one is new -/
theorem DfI.new {st : List (α × Nat)} {s : α} {i : Nat} {b : α} (I : DfI adj V order known (st ++ [(s, i)])) (hb : (adj s)[i]? = some b) (hk : b ∉ known) (hV : b ∈ V) : DfI adj V order (known ++ [b]) (st ++ [(s, i + 1)] ++ [(b, 0)]) where
  kn := fun x => by
    have := I.kn x
    rw [List.mem_append, this]
    simp only [List.map_append, List.map_cons, List.map_nil, List.mem_append, List.mem_singleton]
    constructor
    · rintro ((h | h | h) | h)
      · exact .inl h
      · exact .inr (.inl (.inl h))
      · exact .inr (.inl (.inr h))
      · exact .inr (.inr h)
    · rintro (h | (h | h) | h)
      · exact .inl (.inl h)
      · exact .inl (.inr (.inl h))
      · exact .inl (.inr (.inr h))
      · exact .inr h
  nd := by
    have h := I.nd
    rw [List.map_append] at h
    rw [List.map_append, List.map_append, ← List.append_assoc, List.nodup_append]
    refine ⟨h, by simp, fun x hx y hy => ?_⟩
    have hy : y = b := by simpa using hy
    rintro rfl
    refine hk (hy ▸ (I.kn x).mpr ?_)
    rw [List.map_append]
    exact List.mem_append.mp hx
  kd := by
    rw [List.nodup_append]
    exact ⟨I.kd, by simp, fun a ha b' hb' => by
      rw [List.mem_singleton] at hb'
      rintro rfl
      exact hk (hb' ▸ ha)⟩
  inV := fun x hx => (List.mem_append.mp hx).elim (I.inV x) fun h => by rw [List.mem_singleton.mp h]; exact hV
  fin := fun a ha c hc => List.mem_append_left _ (I.fin a ha c hc)
  F := I.F
  ch := fun pre post u t h => by
    rcases snoc_split h with ⟨post', h'⟩ | ⟨h1, h2⟩
    · rcases snoc_split h' with ⟨post2, h2⟩ | ⟨h3, h4⟩
      · exact I.ch pre (post2 ++ [(s, i)]) u t (by rw [h2, List.append_assoc]; rfl)
      · have := I.ch pre [] u (s, i) (by rw [h3, List.append_assoc]; rfl)
        rw [← h4]
        exact this
    · have e : u = (s, i + 1) := by
        have := List.append_inj_right' h1 rfl
        exact (List.cons.inj this).1.symm
      rw [e, ← h2]
      exact List.mem_of_getElem? hb
  pl := fun u hu => by
    have up : ∀ {u : α × Nat}, (u.2 ≤ (adj u.1).length ∧ ∀ j c, j < u.2 → (adj u.1)[j]? = some c → c ∈ known) → u.2 ≤ (adj u.1).length ∧ ∀ j c, j < u.2 → (adj u.1)[j]? = some c → c ∈ known ++ [b] := fun h => ⟨h.1, fun j c hj hc => List.mem_append_left _ (h.2 j c hj hc)⟩
    rcases List.mem_append.mp hu with hu | hu
    · rcases List.mem_append.mp hu with hu | hu
      · exact up (I.pl u (List.mem_append_left _ hu))
      · rw [List.mem_singleton.mp hu]
        have h0 := I.pl (s, i) (List.mem_append_right _ (List.mem_singleton.mpr rfl))
        refine ⟨(List.getElem?_eq_some_iff.mp hb).1, fun j c hj hc => ?_⟩
        rcases Nat.lt_or_ge j i with g | g
        · exact List.mem_append_left _ (h0.2 j c g hc)
        · have : j = i := by
            have hj : j < i + 1 := hj
            omega
          subst this
          have hc : (adj s)[j]? = some c := hc
          rw [hb] at hc
          cases hc
          exact List.mem_append_right _ (List.mem_singleton.mpr rfl)
    · rw [List.mem_singleton.mp hu]
      exact ⟨Nat.zero_le _, fun j c h => absurd h (Nat.not_lt_zero _)⟩
/-- what is open leads to the top -/
theorem DfI.chain {st : List (α × Nat)} {s : α} {i : Nat} (I : DfI adj V order known (st ++ [(s, i)])) : ∀ u ∈ st ++ [(s, i)], Ld adj u.1 s := by
  have key : ∀ (k : Nat) (pre post : List (α × Nat)), post.length = k → st ++ [(s, i)] = pre ++ post → ∀ u ∈ post, Ld adj u.1 s := by
    intro k
    induction k with
    | zero =>
      intro pre post hl _ u hu
      rw [List.eq_nil_of_length_eq_zero hl] at hu
      cases hu
    | succ k ih =>
      intro pre post hl e u hu
      cases post with
      | nil => cases hl
      | cons v post =>
        have e2 : st ++ [(s, i)] = (pre ++ [v]) ++ post := by rw [e, List.append_assoc]; rfl
        have rest := ih (pre ++ [v]) post (by simpa using hl) e2
        rcases List.mem_cons.mp hu with rfl | hu
        · cases post with
          | nil =>
            rw [List.append_nil] at e2
            have := List.append_inj_right' e2 rfl
            rw [← (List.cons.inj this).1]
            exact Ld.refl s
          | cons t post => exact (Ld.step (I.ch pre post u t e)).trans (rest t List.mem_cons_self)
        · exact rest u hu
  exact key _ [] _ rfl rfl
/-- the top is left -/
theorem DfI.leave {st : List (α × Nat)} {s : α} {i : Nat} (I : DfI adj V order known (st ++ [(s, i)])) (hi : (adj s).length ≤ i) : DfI adj V (order ++ [s]) known st := by
  have h0 := I.pl (s, i) (List.mem_append_right _ (List.mem_singleton.mpr rfl))
  have sk : ∀ b ∈ adj s, b ∈ known := fun b hb => by
    obtain ⟨j, hj⟩ := List.getElem?_of_mem hb
    exact h0.2 j b (Nat.lt_of_lt_of_le (List.getElem?_eq_some_iff.mp hj).1 hi) hj
  have fin' : ∀ a ∈ order ++ [s], ∀ b ∈ adj a, b ∈ known := fun a ha b hb => by
    rcases List.mem_append.mp ha with ha | ha
    · exact I.fin a ha b hb
    · rw [List.mem_singleton.mp ha] at hb
      exact sk b hb
  have kn' : ∀ x, x ∈ known ↔ x ∈ order ++ [s] ∨ x ∈ st.map (·.1) := fun x => by
    rw [I.kn x, List.map_append, List.map_cons, List.map_nil, List.mem_append, List.mem_append]
    constructor
    · rintro (h | h | h)
      · exact .inl (.inl h)
      · exact .inr h
      · exact .inl (.inr h)
    · rintro ((h | h) | h)
      · exact .inl h
      · exact .inr (.inr h)
      · exact .inr (.inl h)
  refine ⟨kn', ?_, I.kd, I.inV, fin', fun p x hx a ha b hb => ?_, fun pre post u t h => ?_, fun u hu => I.pl u (List.mem_append_left _ hu)⟩
  · have h := I.nd
    rw [List.map_append, List.map_cons, List.map_nil] at h
    refine (List.Perm.nodup_iff ?_).mp h
    rw [List.append_assoc]
    exact List.Perm.append_left _ List.perm_append_comm
  · by_cases hp : p < order.length
    · rw [List.getElem?_append_left hp] at hx
      rw [List.take_append_of_le_length hp] at ha ⊢
      exact I.F p x hx a ha b hb
    · have hl := (List.getElem?_eq_some_iff.mp hx).1
      rw [List.length_append, List.length_singleton] at hl
      have e : p = order.length := by omega
      subst e
      rw [List.getElem?_append_right (Nat.le_refl _), Nat.sub_self] at hx
      cases hx
      have et : (order ++ [s]).take (order.length + 1) = order ++ [s] := List.take_of_length_le (by rw [List.length_append]; exact Nat.le_refl _)
      rw [et] at ha ⊢
      rcases (kn' b).mp (fin' a ha b hb) with h | h
      · exact .inl h
      · obtain ⟨u, hu, rfl⟩ := List.mem_map.mp h
        exact .inr (I.chain u (List.mem_append_left _ hu))
  · exact I.ch pre (post ++ [(s, i)]) u t (by rw [h, List.append_assoc]; rfl)
/-- what is still to be done, where nothing leads on more than D times -/
def DfM (adj : α → List α) (V known : List α) (D : Nat) (stack : List (α × Nat)) : Nat := (V.length - known.length) * (D + 2) + (stack.map fun s => (adj s.1).length + 1 - s.2).sum
theorem sum_snoc (xs : List Nat) (x : Nat) : (xs ++ [x]).sum = xs.sum + x := by simp
theorem DfM.old {st : List (α × Nat)} {s : α} {i D : Nat} (h : i < (adj s).length) : DfM adj V known D (st ++ [(s, i + 1)]) < DfM adj V known D (st ++ [(s, i)]) := by
  unfold DfM
  rw [List.map_append, List.map_append, List.map_cons, List.map_nil, List.map_cons, List.map_nil, sum_snoc, sum_snoc]
  show _ + (_ + ((adj s).length + 1 - (i + 1))) < _ + (_ + ((adj s).length + 1 - i))
  omega
theorem DfM.leave {st : List (α × Nat)} {s : α} {i D : Nat} (h : i ≤ (adj s).length) : DfM adj V known D st < DfM adj V known D (st ++ [(s, i)]) := by
  unfold DfM
  rw [List.map_append, List.map_cons, List.map_nil, sum_snoc]
  show _ < _ + (_ + ((adj s).length + 1 - i))
  omega
theorem DfM.new {st : List (α × Nat)} {s b : α} {i D : Nat} (I : DfI adj V order known (st ++ [(s, i)])) (hk : b ∉ known) (hV : b ∈ V) (hD : (adj b).length ≤ D) (h : i < (adj s).length) : DfM adj V (known ++ [b]) D (st ++ [(s, i + 1)] ++ [(b, 0)]) < DfM adj V known D (st ++ [(s, i)]) := by
  unfold DfM
  have hl : (known ++ [b]).length ≤ V.length := nd_sub (by
    rw [List.nodup_append]
    exact ⟨I.kd, by simp, fun a ha b' hb' => by
      rw [List.mem_singleton] at hb'
      rintro rfl
      exact hk (hb' ▸ ha)⟩) fun x hx => (List.mem_append.mp hx).elim (I.inV x) fun h => by rw [List.mem_singleton.mp h]; exact hV
  rw [List.length_append, List.length_singleton] at hl ⊢
  rw [List.map_append, List.map_append, List.map_append, List.map_cons, List.map_nil, List.map_cons, List.map_nil, List.map_cons, List.map_nil, sum_snoc, sum_snoc, sum_snoc]
  show _ + (_ + ((adj s).length + 1 - (i + 1)) + ((adj b).length + 1 - 0)) < _ + (_ + ((adj s).length + 1 - i))
  have e : V.length - known.length = (V.length - (known.length + 1)) + 1 := by omega
  rw [e, Nat.add_mul, Nat.one_mul]
  omega
end

/-! ### lots of things that lead to one another -/
/-- all things of V numbered: the same number, and they lead to one another; no step leads to a lesser number -/
structure LotO (adj : α → List α) (V : List α) (nm : List (α × Nat)) : Prop where
  nd : (nm.map (·.1)).Nodup
  all : ∀ x, x ∈ V ↔ x ∈ nm.map (·.1)
  same : ∀ x y i, (x, i) ∈ nm → (y, i) ∈ nm → Ld adj x y
  up : ∀ x y i j, y ∈ adj x → (x, i) ∈ nm → (y, j) ∈ nm → i ≤ j
/-- between two first ones: n numbers are taken -/
structure LotI (adj : α → List α) (V done : List α) (n : Nat) (nm : List (α × Nat)) : Prop where
  nd : (nm.map (·.1)).Nodup
  inV : ∀ x ∈ nm.map (·.1), x ∈ V
  dn : ∀ x ∈ done, x ∈ nm.map (·.1)
  lt : ∀ p ∈ nm, p.2 < n
  pre : ∀ x ∈ V, ∀ y ∈ adj x, y ∈ nm.map (·.1) → x ∈ nm.map (·.1)
  same : ∀ x y i, (x, i) ∈ nm → (y, i) ∈ nm → Ld adj x y
  up : ∀ x y i j, y ∈ adj x → (x, i) ∈ nm → (y, j) ∈ nm → i ≤ j
/-- while a lot is gathered from r on: mm those of the lot, q those whose sources are still to be seen, S the sources seen of the one at hand -/
structure LotG (adj : α → List α) (V : List α) (r : α) (nm : List (α × Nat)) (mm q : List α) (c : Option α) (S : List α) : Prop where
  nd : (nm.map (·.1) ++ mm).Nodup
  inV : ∀ x ∈ mm, x ∈ V
  rm : r ∈ mm
  to : ∀ x ∈ mm, Ld adj x r
  qm : ∀ x ∈ q, x ∈ mm
  cm : ∀ x, c = some x → x ∈ mm
  pre : ∀ y ∈ mm, y ∉ q → c ≠ some y → ∀ x ∈ V, y ∈ adj x → x ∈ nm.map (·.1) ++ mm
  cS : ∀ y x, c = some y → x ∈ S → x ∈ nm.map (·.1) ++ mm
section
variable {V done mm q : List α} {nm : List (α × Nat)} {n : Nat} {r y : α} {S : List α}
theorem LotI.first (I : LotI adj V done n nm) (hr : r ∉ nm.map (·.1)) (hV : r ∈ V) : LotG adj V r nm [r] [r] none [] where
  nd := by
    rw [List.nodup_append]
    exact ⟨I.nd, by simp, fun a ha b hb => by
      rw [List.mem_singleton] at hb
      rintro rfl
      exact hr (hb ▸ ha)⟩
  inV := fun x hx => by rw [List.mem_singleton.mp hx]; exact hV
  rm := List.mem_singleton.mpr rfl
  to := fun x hx => by rw [List.mem_singleton.mp hx]; exact Ld.refl r
  qm := fun x hx => hx
  cm := fun x h => nomatch h
  pre := fun y hy hq => absurd hy hq
  cS := fun y x h => nomatch h
/-- the last of the queue is taken up -/
theorem LotG.take (G : LotG adj V r nm mm (q ++ [y]) none []) : LotG adj V r nm mm q (some y) [] where
  nd := G.nd
  inV := G.inV
  rm := G.rm
  to := G.to
  qm := fun x hx => G.qm x (List.mem_append_left _ hx)
  cm := fun x h => by
    cases h
    exact G.qm y (List.mem_append_right _ (List.mem_singleton.mpr rfl))
  pre := fun z hz hq hc => G.pre z hz (fun h => by
    rcases List.mem_append.mp h with h | h
    · exact hq h
    · exact hc (by rw [List.mem_singleton.mp h])) (fun h => nomatch h)
  cS := fun z x _ h => nomatch h
/-- a source that has a number -/
theorem LotG.old {x : α} (G : LotG adj V r nm mm q (some y) S) (hx : x ∈ nm.map (·.1) ++ mm) : LotG adj V r nm mm q (some y) (S ++ [x]) := { G with
  cS := fun z u h hu => by
    rcases List.mem_append.mp hu with hu | hu
    · exact G.cS z u h hu
    · rw [List.mem_singleton.mp hu]
      exact hx }
/-- a source without one -/
theorem LotG.new {x : α} (G : LotG adj V r nm mm q (some y) S) (hx : x ∉ nm.map (·.1) ++ mm) (hV : x ∈ V) (hy : y ∈ adj x) : LotG adj V r nm (mm ++ [x]) (q ++ [x]) (some y) (S ++ [x]) where
  nd := by
    rw [← List.append_assoc, List.nodup_append]
    exact ⟨G.nd, by simp, fun a ha b hb => by
      rw [List.mem_singleton] at hb
      rintro rfl
      exact hx (hb ▸ ha)⟩
  inV := fun z hz => (List.mem_append.mp hz).elim (G.inV z) fun h => by rw [List.mem_singleton.mp h]; exact hV
  rm := List.mem_append_left _ G.rm
  to := fun z hz => (List.mem_append.mp hz).elim (G.to z) fun h => by
    rw [List.mem_singleton.mp h]
    exact (Ld.step hy).trans (G.to y (G.cm y rfl))
  qm := fun z hz => (List.mem_append.mp hz).elim (fun h => List.mem_append_left _ (G.qm z h)) fun h => List.mem_append_right _ h
  cm := fun z h => List.mem_append_left _ (G.cm z h)
  pre := fun z hz hq hc u hu he => by
    rcases List.mem_append.mp hz with hz | hz
    · have := G.pre z hz (fun h => hq (List.mem_append_left _ h)) hc u hu he
      rw [← List.append_assoc]
      exact List.mem_append_left _ this
    · exact absurd (List.mem_append_right _ hz) hq
  cS := fun z u h hu => by
    rw [← List.append_assoc]
    rcases List.mem_append.mp hu with hu | hu
    · exact List.mem_append_left _ (G.cS z u h hu)
    · exact List.mem_append_right _ hu
/-- one that has a number already -/
theorem LotI.skip (I : LotI adj V done n nm) (hr : r ∈ nm.map (·.1)) : LotI adj V (done ++ [r]) n nm := { I with
  dn := fun x hx => (List.mem_append.mp hx).elim (I.dn x) fun h => by rw [List.mem_singleton.mp h]; exact hr }
/-- two that lead to one another have the same number -/
theorem LotO.eq (O : LotO adj V nm) (cl : ∀ x ∈ V, ∀ y ∈ adj x, y ∈ V) {x y : α} {i j : Nat} (hx : (x, i) ∈ nm) (hy : (y, j) ∈ nm) (h1 : Ld adj x y) (h2 : Ld adj y x) : i = j := by
  have mono : ∀ (k : Nat) (x y : α), LdN adj k x y → ∀ i j, (x, i) ∈ nm → (y, j) ∈ nm → i ≤ j := fun k x y h => by
    induction h with
    | nil x =>
      intro i j hi hj
      have : i = j := by
        have h1 := O.nd
        obtain ⟨a, ha⟩ := List.getElem?_of_mem hi
        obtain ⟨b, hb⟩ := List.getElem?_of_mem hj
        have e1 : (nm.map (·.1))[a]? = some x := by rw [List.getElem?_map, ha]; rfl
        have e2 : (nm.map (·.1))[b]? = some x := by rw [List.getElem?_map, hb]; rfl
        have := (List.getElem?_inj (List.getElem?_eq_some_iff.mp e1).1 h1).mp (e1.trans e2.symm)
        subst this
        rw [ha] at hb
        exact (Prod.mk.inj (Option.some.inj hb)).2
      omega
    | @cons n x y z h t ih =>
      intro i j hi hj
      have yV : y ∈ V := cl x ((O.all x).mpr (List.mem_map.mpr ⟨_, hi, rfl⟩)) y h
      obtain ⟨p, hp, e⟩ := List.mem_map.mp ((O.all y).mp yV)
      have hp' : (y, p.2) ∈ nm := by rw [← e]; exact hp
      have := O.up x y i p.2 h hi hp'
      have := ih p.2 j hp' hj
      omega
  obtain ⟨a, h1⟩ := h1
  obtain ⟨b, h2⟩ := h2
  have := mono a x y h1 i j hx hy
  have := mono b y x h2 j i hy hx
  omega
end
end
end DL

/-! FT: standings (a post, open atoms), moves between them, as they are gathered (own work). -/
namespace DL
open PySem L2 PySem.W PyProof.Rows

abbrev L3 := Str × Str × Str
abbrev Sd := Str × List Nat
def sdK (x : Sd) : NestedKey := .tup [.text x.1, nmK x.2]
/-- the moves of a standing -/
def sdSc (es : List L3) (m : Mc) (s : Sd) : List (Str × Sd) := (es.filter fun r => decide (r.2.1 = s.1) && !doneM m (begM m s.2 r.1)).map fun r => (r.1, (r.2.2, begM m s.2 r.1))
abbrev sdA (es : List L3) (m : Mc) (s : Sd) : List Sd := (sdSc es m s).map (·.2)
abbrev Mv := List (Sd × List (Str × Sd))
/-! ### gathering moves -/
structure MIn (es : List L3) (m : Mc) (ps : List Str) (n : Nat) (E : List (Str × Sd)) (qs : List Sd) (cs : List (List (Str × Sd))) : Prop where
  nd : qs.Nodup
  ini : ∀ p ∈ ps, (p, []) ∈ qs
  ln : cs.length = qs.length
  dn : ∀ (i : Nat) c, i < n → qs[i]? = some c → cs[i]? = some (sdSc es m c)
  at_ : ∀ c, qs[n]? = some c → cs[n]? = some E
  af : ∀ i, n < i → i < qs.length → cs[i]? = some []
  cl : ∀ l ∈ cs, ∀ e ∈ l, e.2 ∈ qs
  rc : ∀ s ∈ qs, ∃ p ∈ ps, Ld (sdA es m) (p, []) s
structure MvOk (es : List L3) (m : Mc) (ps : List Str) (mv : Mv) : Prop where
  nd : (mv.map (·.1)).Nodup
  ini : ∀ p ∈ ps, (p, []) ∈ mv.map (·.1)
  sc : ∀ x ∈ mv, x.2 = sdSc es m x.1
  cl : ∀ s ∈ mv.map (·.1), ∀ t ∈ sdA es m s, t ∈ mv.map (·.1)
  rc : ∀ s ∈ mv.map (·.1), ∃ p ∈ ps, Ld (sdA es m) (p, []) s
section
variable {es : List L3} {m : Mc} {ps : List Str} {n : Nat} {E : List (Str × Sd)} {qs : List Sd} {cs : List (List (Str × Sd))}
theorem MIn.old (I : MIn es m ps n E qs cs) {c : Sd} (hc : qs[n]? = some c) {e : Str × Sd} (h : e.2 ∈ qs) : MIn es m ps n (E ++ [e]) qs (cs.set n (E ++ [e])) where
  nd := I.nd
  ini := I.ini
  ln := by rw [List.length_set]; exact I.ln
  dn := fun i d hi hd => by
    rw [List.getElem?_set_ne (by omega)]
    exact I.dn i d hi hd
  at_ := fun d hd => by
    rw [List.getElem?_set_self (by rw [I.ln]; exact (List.getElem?_eq_some_iff.mp hc).1)]
  af := fun i hi hl => by
    rw [List.getElem?_set_ne (by omega)]
    exact I.af i hi hl
  cl := fun l hl f hf => by
    rcases List.mem_or_eq_of_mem_set hl with hl | rfl
    · exact I.cl l hl f hf
    · rcases List.mem_append.mp hf with hf | hf
      · exact I.cl E (List.mem_of_getElem? (I.at_ c hc)) f hf
      · rw [List.mem_singleton.mp hf]
        exact h
  rc := I.rc
theorem MIn.new (I : MIn es m ps n E qs cs) {c : Sd} (hc : qs[n]? = some c) {e : Str × Sd} (he : e.2 ∈ sdA es m c) (h : e.2 ∉ qs) : MIn es m ps n (E ++ [e]) (qs ++ [e.2]) (cs.set n (E ++ [e]) ++ [[]]) where
  nd := by
    rw [List.nodup_append]
    exact ⟨I.nd, by simp, fun a ha b hb => by
      rw [List.mem_singleton] at hb
      rintro rfl
      exact h (hb ▸ ha)⟩
  ini := fun p hp => List.mem_append_left _ (I.ini p hp)
  ln := by rw [List.length_append, List.length_set, List.length_append, I.ln]; rfl
  dn := fun i d hi hd => by
    have hl := (List.getElem?_eq_some_iff.mp hc).1
    rw [List.getElem?_append_left (by omega)] at hd
    rw [List.getElem?_append_left (by rw [List.length_set, I.ln]; omega), List.getElem?_set_ne (by omega)]
    exact I.dn i d hi hd
  at_ := fun d _ => by
    have hl := (List.getElem?_eq_some_iff.mp hc).1
    rw [List.getElem?_append_left (by rw [List.length_set, I.ln]; omega), List.getElem?_set_self (by rw [I.ln]; exact hl)]
  af := fun i hi hl => by
    rw [List.length_append, List.length_singleton] at hl
    by_cases g : i < qs.length
    · rw [List.getElem?_append_left (by rw [List.length_set, I.ln]; omega), List.getElem?_set_ne (by omega)]
      exact I.af i hi g
    · have : i = qs.length := by omega
      subst this
      rw [List.getElem?_append_right (by rw [List.length_set, I.ln]; exact Nat.le_refl _), List.length_set, I.ln, Nat.sub_self]
      rfl
  cl := fun l hl f hf => by
    rcases List.mem_append.mp hl with hl | hl
    · rcases List.mem_or_eq_of_mem_set hl with hl | rfl
      · exact List.mem_append_left _ (I.cl l hl f hf)
      · rcases List.mem_append.mp hf with hf | hf
        · exact List.mem_append_left _ (I.cl E (List.mem_of_getElem? (I.at_ c hc)) f hf)
        · rw [List.mem_singleton.mp hf]
          exact List.mem_append_right _ (List.mem_singleton.mpr rfl)
    · rw [List.mem_singleton.mp hl] at hf
      cases hf
  rc := fun s hs => by
    rcases List.mem_append.mp hs with hs | hs
    · exact I.rc s hs
    · rw [List.mem_singleton.mp hs]
      obtain ⟨p, hp, h⟩ := I.rc c (List.mem_of_getElem? hc)
      exact ⟨p, hp, h.tail he⟩
theorem MIn.next (I : MIn es m ps n E qs cs) (hE : ∀ c, qs[n]? = some c → E = sdSc es m c) : MIn es m ps (n + 1) [] qs cs where
  nd := I.nd
  ini := I.ini
  ln := I.ln
  dn := fun i d hi hd => by
    rcases Nat.lt_or_ge i n with g | g
    · exact I.dn i d g hd
    · have : i = n := by omega
      subst this
      rw [I.at_ d hd, hE d hd]
  at_ := fun d hd => I.af (n + 1) (Nat.lt_succ_self _) (List.getElem?_eq_some_iff.mp hd).1
  af := fun i hi hl => I.af i (by omega) hl
  cl := I.cl
  rc := I.rc
/-- standings met out of a row: no more than it has -/
theorem MIn.few (I : MIn es m ps n E qs cs) {N : List Sd} (h0 : ∀ p ∈ ps, (p, []) ∈ N) (hN : ∀ x ∈ N, ∀ y ∈ sdA es m x, y ∈ N) : qs.length ≤ N.length := nd_sub I.nd fun x hx => by
  obtain ⟨p, hp, k, hk⟩ := I.rc x hx
  exact hk.in_ hN (h0 p hp)
end
end DL

/-! FU: rows by standings and their lists, as data and as cells; what leads to each standing (own work). -/
namespace DL
open PySem L2 PySem.W PyProof.Rows

/-- where a standing leads -/
def mvA (mv : Mv) (s : Sd) : List Sd := match mv.find? fun x => decide (x.1 = s) with
  | some x => x.2.map (·.2)
  | none => []
theorem mvA_at {mv : Mv} (hn : (mv.map (·.1)).Nodup) {x : Sd × List (Str × Sd)} (h : x ∈ mv) : mvA mv x.1 = x.2.map (·.2) := by
  unfold mvA
  have : mv.find? (fun y => decide (y.1 = x.1)) = some x := by
    induction mv with
    | nil => cases h
    | cons y mv ih =>
      have hn2 := List.nodup_cons.mp (by rw [List.map_cons] at hn; exact hn)
      rw [List.find?_cons]
      rcases List.mem_cons.mp h with rfl | h
      · rw [decide_eq_true rfl]
      · have : ¬ y.1 = x.1 := fun e => hn2.1 (e ▸ List.mem_map.mpr ⟨x, h, rfl⟩)
        rw [decide_eq_false this]
        exact ih hn2.2 h
  rw [this]
theorem mvA_mem {mv : Mv} {s t : Sd} (h : t ∈ mvA mv s) : ∃ x ∈ mv, x.1 = s ∧ t ∈ x.2.map (·.2) := by
  unfold mvA at h
  cases e : mv.find? (fun x => decide (x.1 = s)) with
  | none => rw [e] at h; cases h
  | some x =>
    rw [e] at h
    exact ⟨x, List.mem_of_find?_eq_some e, by simpa using List.find?_some e, h⟩
/-- all moves without their lanes -/
def edR (mv : Mv) : List (Sd × Sd) := mv.flatMap fun x => x.2.map fun e => (x.1, e.2)
/-- moves that a walk may go through: told once each, none leads out, not too many -/
structure MvW (mv : Mv) : Prop where
  nd : (mv.map (·.1)).Nodup
  cl : ∀ x ∈ mv, ∀ e ∈ x.2, e.2 ∈ mv.map (·.1)
  few : (edR mv).length ≤ 90000
  mn : mv.length ≤ 40000
  rw : ∀ x ∈ mv, x.2.length ≤ 1000
theorem MvW.to {mv : Mv} (W : MvW mv) {s t : Sd} (h : t ∈ mvA mv s) : t ∈ mv.map (·.1) := by
  obtain ⟨x, hx, _, q⟩ := mvA_mem h
  obtain ⟨e, he, rfl⟩ := List.mem_map.mp q
  exact W.cl x hx e he
/-- rows by standings: their lists -/
def lsR (qs : List Sd) (ls : List (List D)) : List (NestedKey × D) := (qs.zip ls).map fun x => (sdK x.1, D.lst x.2)
theorem DfI.few {adj : Sd → List Sd} {V order known : List Sd} {stack : List (Sd × Nat)} (I : DfI adj V order known stack) : order.length + stack.length ≤ V.length ∧ known.length ≤ V.length := by
  have h1 := nd_sub I.nd (ys := V) fun x hx => I.inV x ((I.kn x).mpr (List.mem_append.mp hx))
  rw [List.length_append, List.length_map] at h1
  exact ⟨h1, nd_sub I.kd fun x hx => I.inV x hx⟩
section
variable {wd : World} {K : PySem.W.Frag} {ro : Ro} {ka : Cells} {te : TE} {P R : W → Cells → Prop}
end
end DL

/-! FV: lanes on moves between standings of one number, dicts of dicts (own work). -/
namespace DL
open PySem L2 PySem.W PyProof.Rows

def edL (mv : Mv) : List (Sd × Str × Sd) := mv.flatMap fun x => x.2.map fun e => (x.1, e.1, e.2)
theorem edL_mem {mv : Mv} {s t : Sd} {l : Str} : (s, l, t) ∈ edL mv ↔ ∃ x ∈ mv, x.1 = s ∧ (l, t) ∈ x.2 := by
  unfold edL
  rw [List.mem_flatMap]
  constructor
  · rintro ⟨x, hx, h⟩
    obtain ⟨e, he, q⟩ := List.mem_map.mp h
    cases q
    exact ⟨x, hx, rfl, he⟩
  · rintro ⟨x, hx, rfl, h⟩
    exact ⟨x, hx, List.mem_map.mpr ⟨_, h, rfl⟩⟩
/-- the lanes on moves within a number -/
def ilL (nm : List (Sd × Nat)) (E : List (Sd × Str × Sd)) (n : Nat) : List Str := (E.filter fun e => decide ((e.1, n) ∈ nm) && decide ((e.2.2, n) ∈ nm)).map (·.2.1)
theorem ilL_in {nm : List (Sd × Nat)} {E : List (Sd × Str × Sd)} {n : Nat} {e : Sd × Str × Sd} (h1 : (e.1, n) ∈ nm) (h2 : (e.2.2, n) ∈ nm) : ilL nm (E ++ [e]) n = ilL nm E n ++ [e.2.1] := by
  unfold ilL
  rw [List.filter_append, List.map_append, List.filter_cons, decide_eq_true h1, decide_eq_true h2]
  rfl
theorem ilL_out {nm : List (Sd × Nat)} {E : List (Sd × Str × Sd)} {n : Nat} {e : Sd × Str × Sd} (h : ¬ ((e.1, n) ∈ nm ∧ (e.2.2, n) ∈ nm)) : ilL nm (E ++ [e]) n = ilL nm E n := by
  unfold ilL
  rw [List.filter_append, List.map_append, List.filter_cons]
  have : (decide ((e.1, n) ∈ nm) && decide ((e.2.2, n) ∈ nm)) = false := by
    rw [← Bool.not_eq_true, Bool.and_eq_true, decide_eq_true_eq, decide_eq_true_eq]
    exact h
  rw [this]
  exact List.append_nil _
theorem ilL_mem {nm : List (Sd × Nat)} {E : List (Sd × Str × Sd)} {n : Nat} {l : Str} : l ∈ ilL nm E n ↔ ∃ s t, (s, l, t) ∈ E ∧ (s, n) ∈ nm ∧ (t, n) ∈ nm := by
  unfold ilL
  rw [List.mem_map]
  constructor
  · rintro ⟨⟨s, l', t⟩, h, rfl⟩
    obtain ⟨h1, h2⟩ := List.mem_filter.mp h
    rw [Bool.and_eq_true, decide_eq_true_eq, decide_eq_true_eq] at h2
    exact ⟨s, t, h1, h2⟩
  · rintro ⟨s, t, h, h1, h2⟩
    exact ⟨(s, l, t), List.mem_filter.mpr ⟨h, by rw [decide_eq_true h1, decide_eq_true h2]; rfl⟩, rfl⟩
/-- two numbers of one standing are the same -/
theorem num_one {nm : List (Sd × Nat)} (hn : (nm.map (·.1)).Nodup) {s : Sd} {i j : Nat} (h1 : (s, i) ∈ nm) (h2 : (s, j) ∈ nm) : i = j := by
  induction nm with
  | nil => cases h1
  | cons x nm ih =>
    have hn2 := List.nodup_cons.mp (by rw [List.map_cons] at hn; exact hn)
    rcases List.mem_cons.mp h1 with e1 | h1 <;> rcases List.mem_cons.mp h2 with e2 | h2
    · rw [← e1] at e2
      exact (Prod.mk.inj e2).2.symm
    · exact absurd (List.mem_map.mpr ⟨_, h2, by rw [← e1]⟩) hn2.1
    · exact absurd (List.mem_map.mpr ⟨_, h1, by rw [← e2]⟩) hn2.1
    · exact ih hn2.2 h1 h2
/-! ### dicts behind numbers -/
/-- each number: its dict's place among those made -/
def ilR (as : List Addr) (rows : List (Nat × Nat)) : List (Key × D) := rows.map fun r => (Sum.inl (r.1 : Int), D.adr (as[r.2]?.getD 0))
structure IlR (nm : List (Sd × Nat)) (len : Nat) (rows : List (Nat × Nat)) : Prop where
  n1 : (rows.map (·.1)).Nodup
  n2 : (rows.map (·.2)).Nodup
  lt : ∀ r ∈ rows, r.2 < len
  mem : ∀ n, n ∈ rows.map (·.1) ↔ n ∈ nm.map (·.2)
theorem int_inl {i j : Nat} (h : (Sum.inl (i : Int) : Key) = Sum.inl (j : Int)) : i = j := by
  injection h with h
  omega
theorem ilR_has {as : List Addr} {rows : List (Nat × Nat)} {n : Nat} : hasT (ilR as rows) (Sum.inl (n : Int)) = decide (n ∈ rows.map (·.1)) := by
  rw [Bool.eq_iff_iff, decide_eq_true_eq]
  unfold hasT ilR
  rw [List.any_map, List.any_eq_true]
  constructor
  · rintro ⟨r, hr, h⟩
    exact List.mem_map.mpr ⟨r, hr, int_inl (of_decide_eq_true h)⟩
  · intro h
    obtain ⟨r, hr, rfl⟩ := List.mem_map.mp h
    exact ⟨r, hr, decide_eq_true rfl⟩
theorem ilR_more {as : List Addr} {rows : List (Nat × Nat)} {a : Addr} (h : ∀ r ∈ rows, r.2 < as.length) : ilR (as ++ [a]) rows = ilR as rows := by
  unfold ilR
  refine List.map_congr_left fun r hr => ?_
  rw [List.getElem?_append_left (h r hr)]
theorem IlR.put {nm : List (Sd × Nat)} {i : Nat} {rows : List (Nat × Nat)} (I : IlR (nm.take i) i rows) {x : Sd × Nat} (h : nm[i]? = some x) {as : List Addr} (hl : as.length = i) (a : Addr) : ∃ rows', putT (ilR as rows) (Sum.inl (x.2 : Int)) (.adr a) = ilR (as ++ [a]) rows' ∧ IlR (nm.take (i + 1)) (i + 1) rows' := by
  have hlt : ∀ r ∈ rows, r.2 < as.length := fun r hr => by rw [hl]; exact I.lt r hr
  have hmem : ∀ n, n ∈ (nm.take (i + 1)).map (·.2) ↔ n ∈ (nm.take i).map (·.2) ∨ n = x.2 := fun n => by
    rw [take_succ_some h, List.map_append, List.mem_append]
    simp
  by_cases hx : x.2 ∈ rows.map (·.1)
  · refine ⟨rows.map fun r => if r.1 = x.2 then (r.1, i) else r, ?_, ?_, ?_, ?_, fun n => ?_⟩
    · unfold putT
      rw [ilR_has, if_pos (decide_eq_true hx)]
      unfold ilR
      rw [List.map_map, List.map_map]
      refine List.map_congr_left fun r hr => ?_
      simp only [Function.comp, newAt]
      by_cases e : r.1 = x.2
      · rw [if_pos (by rw [e]), if_pos e]
        simp only
        rw [List.getElem?_append_right (by omega), hl, Nat.sub_self]
        rfl
      · rw [if_neg (fun z => e (int_inl z)), if_neg e, List.getElem?_append_left (hlt r hr)]
    · rw [List.map_map, show ((fun x => x.1) ∘ fun r : Nat × Nat => if r.1 = x.2 then (r.1, i) else r) = fun r => r.1 from funext fun r => by simp only [Function.comp]; split <;> rfl]
      exact I.n1
    · have n1 := I.n1
      have n2 := I.n2
      have lt := I.lt
      clear hmem hlt hx I
      induction rows with
      | nil => exact List.nodup_nil
      | cons r rows ih =>
        rw [List.map_cons] at n1 n2
        have q1 := List.nodup_cons.mp n1
        have q2 := List.nodup_cons.mp n2
        rw [List.map_cons, List.map_cons, List.nodup_cons]
        refine ⟨fun hm => ?_, ih q1.2 q2.2 fun r hr => lt r (List.mem_cons_of_mem _ hr)⟩
        rw [List.map_map] at hm
        obtain ⟨r', h1, h2⟩ := List.mem_map.mp hm
        have l1 := lt r List.mem_cons_self
        have l2 := lt r' (List.mem_cons_of_mem _ h1)
        simp only [Function.comp] at h2
        by_cases e : r.1 = x.2 <;> by_cases e' : r'.1 = x.2
        · exact q1.1 (e.trans e'.symm ▸ List.mem_map.mpr ⟨r', h1, rfl⟩)
        · rw [if_pos e, if_neg e'] at h2
          simp only at h2
          omega
        · rw [if_neg e, if_pos e'] at h2
          simp only at h2
          omega
        · rw [if_neg e, if_neg e'] at h2
          exact q2.1 (h2 ▸ List.mem_map.mpr ⟨r', h1, rfl⟩)
    · intro r hr
      obtain ⟨r', h1, rfl⟩ := List.mem_map.mp hr
      have := I.lt r' h1
      split
      · exact Nat.lt_succ_self _
      · omega
    · rw [hmem, ← I.mem, List.map_map, show ((fun x => x.1) ∘ fun r : Nat × Nat => if r.1 = x.2 then (r.1, i) else r) = fun r => r.1 from funext fun r => by simp only [Function.comp]; split <;> rfl]
      exact ⟨.inl, fun h => h.elim id fun e => e ▸ hx⟩
  · refine ⟨rows ++ [(x.2, i)], ?_, ?_, ?_, ?_, fun n => ?_⟩
    · unfold putT
      rw [ilR_has, if_neg (by simpa using hx)]
      conv => lhs; rw [← ilR_more (a := a) hlt]
      unfold ilR
      rw [List.map_append, List.map_cons, List.map_nil]
      simp only
      rw [List.getElem?_append_right (by omega), hl, Nat.sub_self]
      rfl
    · rw [List.map_append, List.nodup_append]
      refine ⟨I.n1, by simp, fun u hu v hv => ?_⟩
      rw [List.map_cons, List.map_nil, List.mem_singleton] at hv
      have hv : v = x.2 := hv
      rintro rfl
      exact hx (hv ▸ hu)
    · rw [List.map_append, List.nodup_append]
      refine ⟨I.n2, by simp, fun u hu v hv => ?_⟩
      rw [List.map_cons, List.map_nil, List.mem_singleton] at hv
      obtain ⟨r, hr, rfl⟩ := List.mem_map.mp hu
      have := I.lt r hr
      omega
    · intro r hr
      rcases List.mem_append.mp hr with hr | hr
      · have := I.lt r hr
        omega
      · rw [List.mem_singleton.mp hr]
        exact Nat.lt_succ_self _
    · rw [hmem, ← I.mem, List.map_append, List.mem_append]
      simp
/-- what each number's dict holds behind some moves -/
structure IlS (nm : List (Sd × Nat)) (rows : List (Nat × Nat)) (len : Nat) (E : List (Sd × Str × Sd)) (ls : List (List Str)) : Prop where
  ln : ls.length = len
  at_ : ∀ r ∈ rows, ls[r.2]? = some (dedS (ilL nm E r.1))
theorem IlS.skip {nm : List (Sd × Nat)} {rows : List (Nat × Nat)} {len : Nat} {E : List (Sd × Str × Sd)} {ls : List (List Str)} (I : IlS nm rows len E ls) {e : Sd × Str × Sd} (h : ∀ n, ¬ ((e.1, n) ∈ nm ∧ (e.2.2, n) ∈ nm)) : IlS nm rows len (E ++ [e]) ls where
  ln := I.ln
  at_ := fun r hr => by rw [ilL_out (h r.1)]; exact I.at_ r hr
theorem IlS.more {nm : List (Sd × Nat)} {rows : List (Nat × Nat)} {len : Nat} {E : List (Sd × Str × Sd)} {ls : List (List Str)} (I : IlS nm rows len E ls) (hn : (nm.map (·.1)).Nodup) (n1 : (rows.map (·.1)).Nodup) (n2 : (rows.map (·.2)).Nodup) {e : Sd × Str × Sd} {r : Nat × Nat} (hr : r ∈ rows) (h1 : (e.1, r.1) ∈ nm) (h2 : (e.2.2, r.1) ∈ nm) : IlS nm rows len (E ++ [e]) (ls.set r.2 (dedS (ilL nm E r.1 ++ [e.2.1]))) where
  ln := by rw [List.length_set]; exact I.ln
  at_ := fun r' hr' => by
    have hl := (List.getElem?_eq_some_iff.mp (I.at_ r hr)).1
    by_cases e' : r'.1 = r.1
    · have : r' = r := nd_inj n1 hr' hr e'
      subst this
      rw [List.getElem?_set_self hl, ilL_in h1 h2]
    · have hne : r.2 ≠ r'.2 := fun z => e' (by rw [nd_inj n2 hr' hr z.symm])
      rw [List.getElem?_set_ne hne, ilL_out fun ⟨q1, _⟩ => e' (num_one hn q1 h1)]
      exact I.at_ r' hr'
where
  nd_inj {f : Nat × Nat → Nat} {rows : List (Nat × Nat)} (n : (rows.map f).Nodup) {a b : Nat × Nat} (ha : a ∈ rows) (hb : b ∈ rows) (h : f a = f b) : a = b := by
    induction rows with
    | nil => cases ha
    | cons x rows ih =>
      have q := List.nodup_cons.mp (by rw [List.map_cons] at n; exact n)
      rcases List.mem_cons.mp ha with e1 | h1 <;> rcases List.mem_cons.mp hb with e2 | h2
      · rw [e1, e2]
      · exact absurd (List.mem_map.mpr ⟨b, h2, by rw [← h, e1]⟩) q.1
      · exact absurd (List.mem_map.mpr ⟨a, h1, by rw [h, e2]⟩) q.1
      · exact ih q.2 h1 h2
end DL
namespace DL
open PySem L2 PySem.W PyProof.Rows
/-! ### a round along moves that takes all wanted lanes -/
def AvN (nm : List (Sd × Nat)) (E : List (Sd × Str × Sd)) (gs : List Str) (d : D) : Prop :=
  (d = .non ∧ ∀ n ∈ nm.map (·.2), ¬ ∀ g ∈ gs, g ∈ ilL nm E n) ∨ ∃ n : Nat, d = .int (n : Int) ∧ n ∈ nm.map (·.2) ∧ ∀ g ∈ gs, g ∈ ilL nm E n
/-- a standing from which each wanted lane can be taken, and back -/
def AvP (mv : Mv) (gs : List Str) : Prop := ∃ s ∈ mv.map (·.1), ∀ g ∈ gs, ∃ u v, (u, g, v) ∈ edL mv ∧ Ld (mvA mv) s u ∧ Ld (mvA mv) v s
open Classical in
noncomputable def avB (mv : Mv) (gs : List Str) : Bool := decide (AvP mv gs)
open Classical in
theorem avB_iff {mv : Mv} {gs : List Str} : avB mv gs = true ↔ AvP mv gs := decide_eq_true_iff
theorem MvW.lane {mv : Mv} (V : MvW mv) {u v : Sd} {g : Str} (h : (u, g, v) ∈ edL mv) : v ∈ mvA mv u ∧ u ∈ mv.map (·.1) := by
  obtain ⟨x, hx, rfl, he⟩ := edL_mem.mp h
  exact ⟨by rw [mvA_at V.nd hx]; exact List.mem_map.mpr ⟨_, he, rfl⟩, List.mem_map.mpr ⟨x, hx, rfl⟩⟩
theorem LotO.few {mv : Mv} {nm : List (Sd × Nat)} (O : LotO (mvA mv) (mv.map (·.1)) nm) : nm.length ≤ mv.length := by
  have := nd_sub O.nd (ys := mv.map (·.1)) fun x hx => (O.all x).mpr hx
  rw [List.length_map, List.length_map] at this
  exact this
theorem AvN.told {mv : Mv} {nm : List (Sd × Nat)} {gs : List Str} {d : D} (V : MvW mv) (O : LotO (mvA mv) (mv.map (·.1)) nm) (h : AvN nm (edL mv) gs d) : isNonD d = !avB mv gs := by
  have key : AvP mv gs ↔ ∃ n ∈ nm.map (·.2), ∀ g ∈ gs, g ∈ ilL nm (edL mv) n := by
    constructor
    · rintro ⟨s, hs, hg⟩
      obtain ⟨⟨s', n⟩, hsn, e⟩ := List.mem_map.mp ((O.all s).mp hs)
      simp only at e
      subst e
      refine ⟨n, List.mem_map.mpr ⟨_, hsn, rfl⟩, fun g hgm => ?_⟩
      obtain ⟨u, v, he, h1, h2⟩ := hg g hgm
      obtain ⟨hv, hu⟩ := V.lane he
      obtain ⟨⟨u', i⟩, hui, e⟩ := List.mem_map.mp ((O.all u).mp hu)
      simp only at e
      subst e
      obtain ⟨⟨v', j⟩, hvj, e⟩ := List.mem_map.mp ((O.all v).mp (V.to hv))
      simp only at e
      subst e
      have cl : ∀ x ∈ mv.map (·.1), ∀ y ∈ mvA mv x, y ∈ mv.map (·.1) := fun x _ y hy => V.to hy
      have e1 := O.eq cl hsn hui h1 ((Ld.step hv).trans h2)
      have e2 := O.eq cl hsn hvj (h1.tail hv) h2
      subst e1 e2
      exact ilL_mem.mpr ⟨_, _, he, hui, hvj⟩
    · rintro ⟨n, hn, hg⟩
      obtain ⟨⟨s, n'⟩, hsn, e⟩ := List.mem_map.mp hn
      simp only at e
      subst e
      refine ⟨s, (O.all s).mpr (List.mem_map.mpr ⟨_, hsn, rfl⟩), fun g hgm => ?_⟩
      obtain ⟨u, v, he, h1, h2⟩ := ilL_mem.mp (hg g hgm)
      exact ⟨u, v, he, O.same _ _ _ hsn h1, O.same _ _ _ h2 hsn⟩
  rcases h with ⟨rfl, h⟩ | ⟨n, rfl, h1, h2⟩
  · have : avB mv gs = false := by
      rw [← Bool.not_eq_true, avB_iff]
      intro hp
      obtain ⟨n, hn, hg⟩ := key.mp hp
      exact h n hn hg
    rw [this]
    rfl
  · rw [avB_iff.mpr (key.mpr ⟨n, h1, h2⟩)]
    rfl
section
variable {K : PySem.W.Frag} {ro : Ro} {ka k1 : Cells} {te : TE} {P : W → Cells → Prop} {bb : Bool}
end
end DL

/-! FW: an own object as a test (own work). -/
namespace DL
open PySem L2 PySem.Spec PyProof.Rows PySem.W
section
variable {X : Cx} {k : Nat} {C f : Addr} {ps : List Str} {E : XK} {Ct' : Ct} {e : Expr} {te : TE}
end
end DL

/-! FX: comprehensions over enumerated sequences of one kind; rows of numbers compared (own work). -/
namespace DL
open PySem L2 PySem.Spec PyProof.Rows PySem.W
section
variable {K : PySem.W.Frag} {ro : Ro} {ka k1 k2 k3 : Cells} {te tf : TE} {tt : TT} {j l : Nat} {x y w : W}
theorem getD_mapD {α : Type} {xs : List α} {z : α} {g : α → D} {i : Nat} (h : i < xs.length) : (xs.map g).getD i .non = g (xs.getD i z) := by
  rw [List.getD_eq_getElem?_getD, List.getElem?_map, List.getD_eq_getElem?_getD, List.getElem?_eq_getElem h]
  rfl
/-- [f(i, x) for i, x in enumerate(xs) if p(i, x)] -/
theorem evn_filtE {α : Type} {wi : TI} {xs : List α} (z : α) {g : α → D} {f : Nat → α → D} {p : Nat → α → Bool} {C : Cells → Prop} {vs : List Nat} (h : EvI K wi ro ka ((List.range (xs.map g).length).map fun i : Nat => W.val (.tup [.int (i : Int), (xs.map g).getD i .non])) C k1) (hj : j ∈ vs) (hl : l ∈ vs) (hn : xs.length ≤ 1000000) (hC : C k1 ∧ ∀ x, C (k1 ++ [x]))
    (ht : ∀ i, i < xs.length → EvT K tt (((wipeR ro vs).set j (some (.val (.int (i : Int))))).set l (some (.val (g (xs.getD i z))))) k1 (p i (xs.getD i z)) k1)
    (hs : ∀ i, i < xs.length → p i (xs.getD i z) = true → EvD K te (((wipeR ro vs).set j (some (.val (.int (i : Int))))).set l (some (.val (g (xs.getD i z))))) k1 (.val (f i (xs.getD i z))) k1) :
    EvN K (tLc wi (gTup K 2 (gCons (gName j) (gCons (gName l) gNil))) tt te vs) ro ka (.lst (((List.range xs.length).filter fun i => p i (xs.getD i z)).map fun i => f i (xs.getD i z))) k1 := fun B F0 ta sg H Q e q => by
  have hw : ((List.range (xs.map g).length).map fun i : Nat => W.val (.tup [.int (i : Int), (xs.map g).getD i .non])) = ((List.range xs.length).map fun i : Nat => ((D.int (i : Int), g (xs.getD i z)) : D × D)).map fun p => W.val (.tup [p.1, p.2]) := by
    rw [List.map_map, List.length_map]
    exact List.map_congr_left fun i hi => by
      rw [getD_mapD (z := z) (List.mem_range.mp hi)]
      rfl
  refine evr_lcP (EvI.ws h hw) hj hl (by rw [List.length_map, List.length_range]; exact hn) (fun i acc k => acc = ((List.range i).filter fun i => p i (xs.getD i z)).map (fun i => f i (xs.getD i z)) ∧ k = k1) ⟨rfl, rfl⟩ (fun i acc k z => by rw [z.2]; exact hC) (fun i x acc k hx ⟨e1, e2⟩ => ?_) B F0 ta sg H Q e fun n k a H' ⟨acc, hn', e1, e2⟩ e' => ?_
  · subst e1 e2
    rw [List.getElem?_map] at hx
    obtain ⟨i', hi', rfl⟩ := Option.map_eq_some_iff.mp hx
    obtain ⟨hi1, hi2⟩ := List.getElem?_eq_some_iff.mp hi'
    rw [List.getElem_range] at hi2
    subst hi2
    rw [List.length_range] at hi1
    have t := ht i hi1
    rw [List.range_succ, List.filter_append, List.map_append]
    cases hp : p i (xs.getD i z) with
    | false =>
      rw [hp] at t
      exact .inl ⟨_, t, by rw [List.filter_cons, hp]; simp, rfl⟩
    | true =>
      rw [hp] at t
      exact .inr ⟨_, _, f i (xs.getD i z), t, hs i hi1 hp, by rw [List.filter_cons, hp]; simp, rfl⟩
  · subst hn' e1 e2
    rw [List.length_map, List.length_range] at e'
    exact q a H' e'
end
section
variable {X : Cx}
end
section
variable {K : PySem.W.Frag} {ro : Ro} {ka k1 k2 : Cells} {te tf : TE} {y : W}
end
section
variable {K : PySem.W.Frag} {ro : Ro} {ka k1 k2 : Cells} {te tf : TE} {y w : W}
end
/-! ### what is told of a locked dict's keys; a dict within a dict -/
section
variable {K : PySem.W.Frag} {ro : Ro} {ka : Cells} {te tg : TE} {tt : TT} {j : Nat} {vs : List Nat}
end
section
variable {K : PySem.W.Frag} {B F0 : Hp} {ro : Ro} {ka : Cells} {ta : List (V × W)} {td ty tv : TE} {De : Ends} {a : Addr} {wd : World} {ks : List NestedKey} {P : W → Cells → Prop}
end
section
variable {K : PySem.W.Frag} {ro : Ro} {ka k1 : Cells} {te : TE} {tt : TT} {j l : Nat} {vs : List Nat}
end
end DL

/-! FY: own errors with three fields (own work). -/
namespace DL
open PySem L2 PySem.Spec PyProof.Rows PySem.W
/-- __init__(self, x, y, z): self.f = x; self.g = y; self.h = z -/
def spI3 (K : PySem.W.Frag) (C : Addr) (f1 f2 f3 : Str) : Sp := fun vs H Q _ => ∃ a y1 y2 y3, vs = [.ref a, y1, y2, y3] ∧ OexC K C ∧ findIn K (.ref C) f1 = some none ∧ findIn K (.ref C) f2 = some none ∧ findIn K (.ref C) f3 = some none ∧ H a = some (exo a C none) ∧
  ∀ d, H d = none → d ≠ a → Q .non (upd (upd (upd (upd H d (exd d [(f1, y1)])) a (exo a C (some d))) d (exd d [(f2, y2), (f1, y1)])) d (exd d [(f3, y3), (f2, y2), (f1, y1)]))
theorem init3_ok {P : Program} {w : World} {K : PySem.W.Frag} {mg : Str → Option Value} {base : Heap} {f C : Addr} {fd : FuncData} {nm qual x y z f1 f2 f3 : Str} {params : Arguments} {body : List Stmt} {scope : Scope} {k : Nat} {CX : CXT}
    (F : FunD K nm qual params body scope [] [] f fd) (S : FnScope ["self", x, y, z] ["self", x, y, z] scope)
    (h : ∀ (cdv : Value) (A : Around) (outer : List Env) (s : Shared) (H : Hp) (E : XK), PSs (cxOf CX P w K mg base ["self", x, y, z] qual scope f cdv A outer s H E) body (tSeq (tOst K f1 (tVar 0) (tVar 1)) (tSeq (tOst K f2 (tVar 0) (tVar 2)) (tOst K f3 (tVar 0) (tVar 3))))) : FnOk P w K mg base CX (k + 1) f fd ["self", x, y, z] (spI3 K C f1 f2 f3) :=
  F.ok S (fun vs H Q E ⟨a, y1, y2, y3, e, _⟩ => by rw [e]; rfl) fun cdv A outer s H vs Q E hr ⟨a, y1, y2, y3, e, T, h1, h2, h3, ha, q⟩ => ⟨_, h cdv A outer s H E, by
    subst e
    refine ⟨y1, rfl, .ref a, rfl, a, C, rfl, T, h1, .inl ⟨ha, fun d hd hne => ?_⟩⟩
    refine ⟨y2, rfl, .ref a, rfl, a, C, rfl, T, h2, .inr ⟨d, [(f1, y1)], upd_same, by rw [upd_ne hne]; exact upd_same, (show 1 ≤ 900 by decide), ?_⟩⟩
    refine ⟨y3, rfl, .ref a, rfl, a, C, rfl, T, h3, .inr ⟨d, [(f2, y2), (f1, y1)], by rw [upd_ne (fun z => hne z.symm)]; exact upd_same, upd_same, (show 2 ≤ 900 by decide), ?_⟩⟩
    exact q d hd hne⟩
section
variable {K : PySem.W.Frag} {B F F0 : Hp} {ro : Ro} {ka k1 : Cells} {ta : List (V × W)} {sg : L2.St} {H H' : Hp} {tr : TA} {C : Addr} {f1 f2 f3 : Str} {d1 d2 d3 : D} {De : Ends}
theorem mk3_of {Q : XK} (ha : EvA K tr ro ka [.val d1, .val d2, .val d3] k1) (T : OexC K C) (h1 : findIn K (.ref C) f1 = some none) (h2 : findIn K (.ref C) f2 = some none) (h3 : findIn K (.ref C) f3 = some none) (e : En K B F0 ro ka ta sg H)
    (q : ∀ dx H', En K B F0 ro (k1 ++ [(dx, .xd [(f3, d3), (f2, d2), (f1, d1)])]) ta sg H' → Q (.ref C) (some dx) H') : tMkO C (spI3 K C f1 f2 f3) [] tr sg H Q := ha B F0 ta sg H _ e fun vs H1 hl e1 => by
  match vs, hl with
  | [v1, v2, v3], _ =>
    refine ⟨by show 3 ≤ 1000; omega, fun a hna => ⟨a, v1, v2, v3, rfl, T, h1, h2, h3, upd_same, fun dd hd hne => ⟨rfl, dd, [(f3, v3), (f2, v2), (f1, v1)], ?_, upd_same, ?_, ?_⟩⟩⟩
    · rw [upd_ne (fun z => hne z.symm), upd_ne (fun z => hne z.symm)]
      exact upd_same
    · rwa [upd_ne hne] at hd
    · have hd1 : H1 dd = none := by rwa [upd_ne hne] at hd
      have eH : upd (del (upd (upd (upd (upd (upd H1 a (exo a C none)) dd (exd dd [(f1, v1)])) a (exo a C (some dd))) dd (exd dd [(f2, v2), (f1, v1)])) dd (exd dd [(f3, v3), (f2, v2), (f1, v1)])) a) dd (.xd [(f3, v3), (f2, v2), (f1, v1)]) = upd H1 dd (.xd [(f3, v3), (f2, v2), (f1, v1)]) := by
        funext b
        by_cases h1 : b = dd
        · subst h1
          rw [upd_same, upd_same]
        · rw [upd_ne h1, upd_ne h1]
          by_cases h2 : b = a
          · subst h2
            rw [del_same, hna]
          · rw [del_ne h2, upd_ne h1, upd_ne h1, upd_ne h2, upd_ne h1, upd_ne h2]
      rw [eH]
      obtain ⟨F, g, e1⟩ := e1
      have w1 : WOk K B F v1 (.val d1) := e1.tm _ (List.mem_append_left _ List.mem_cons_self)
      have w2 : WOk K B F v2 (.val d2) := e1.tm _ (List.mem_append_left _ (List.mem_cons_of_mem _ List.mem_cons_self))
      have w3 : WOk K B F v3 (.val d3) := e1.tm _ (List.mem_append_left _ (List.mem_cons_of_mem _ (List.mem_cons_of_mem _ List.mem_cons_self)))
      exact q dd _ ⟨F, g, (e1.cell (o := .xd [(f3, v3), (f2, v2), (f1, v1)]) hd1 (n := .xd [(f3, d3), (f2, d2), (f1, d1)]) ⟨_, upd_same, v3, _, rfl, w3, v2, _, rfl, w2, v1, [], rfl, w1, rfl⟩).held fun p hp => List.mem_append_right _ hp⟩
end
/-- an own error with three fields -/
structure X3 (P : Program) (w : World) (K : PySem.W.Frag) (mg : Str → Option Value) (base : Heap) (C : Addr) (f1 f2 f3 : Str) : Prop where
  xc : Xc K C
  n1 : findIn K (.ref C) f1 = some none
  n2 : findIn K (.ref C) f2 = some none
  n3 : findIn K (.ref C) f3 = some none
  ex : ∃ fI fd x y z, findIn K (.ref C) "__init__" = some (some (.ref fI)) ∧ typeIn K (.ref fI) = some (.type "function") ∧ FnOk P w K mg base (L2.CX P w) 1 fI fd ["self", x, y, z] (spI3 K C f1 f2 f3) ∧ Binds K fd ["self", x, y, z] []
namespace X3
variable {P : Program} {w : World} {K : PySem.W.Frag} {mg : Str → Option Value} {base : Heap} {C : Addr} {f1 f2 f3 : Str}
noncomputable def fI (Z : X3 P w K mg base C f1 f2 f3) : Addr := Classical.choose Z.ex
noncomputable def fd (Z : X3 P w K mg base C f1 f2 f3) : FuncData := Classical.choose (Classical.choose_spec Z.ex)
noncomputable def px (Z : X3 P w K mg base C f1 f2 f3) : Str := Classical.choose (Classical.choose_spec (Classical.choose_spec Z.ex))
noncomputable def py (Z : X3 P w K mg base C f1 f2 f3) : Str := Classical.choose (Classical.choose_spec (Classical.choose_spec (Classical.choose_spec Z.ex)))
noncomputable def pz (Z : X3 P w K mg base C f1 f2 f3) : Str := Classical.choose (Classical.choose_spec (Classical.choose_spec (Classical.choose_spec (Classical.choose_spec Z.ex))))
theorem all (Z : X3 P w K mg base C f1 f2 f3) : findIn K (.ref C) "__init__" = some (some (.ref Z.fI)) ∧ typeIn K (.ref Z.fI) = some (.type "function") ∧ FnOk P w K mg base (L2.CX P w) 1 Z.fI Z.fd ["self", Z.px, Z.py, Z.pz] (spI3 K C f1 f2 f3) ∧ Binds K Z.fd ["self", Z.px, Z.py, Z.pz] [] :=
  Classical.choose_spec (Classical.choose_spec (Classical.choose_spec (Classical.choose_spec (Classical.choose_spec Z.ex))))
end X3
end DL

/-! FZ: statements that are never reached (own work). -/
namespace DL
open PySem L2 PySem.Spec PyProof.Rows PySem.W
end DL

/-! GA: d.setdefault(text, []), d.clear(), cells behind tuples (own work). -/
namespace DL
open PySem L2 PySem.W PyProof.Rows
section
variable {K : PySem.W.Frag} {B F F0 H H' : Hp} {ro ro' : Ro} {ka k1 k2 kr kt : Cells} {ta : List (V × W)} {sg : L2.St} {te td ty tx : TE} {a : Addr} {De : Ends} {u : TS}
/-! ### what stands in a slot, its cells told as what they stand for -/
/-- d, with the cells kt, is the data e -/
def FzT (K : PySem.W.Frag) (kt : Cells) (d e : D) : Prop := ∀ F H v, Nz F → Thw K F H kt → Rp K F d v → Rp K (thF F H kt) e v
theorem FzT.same (d : D) : FzT K kt d d := fun F H v nz t h => Rp.mono (thF_sub t.no).exz nz _ _ h
theorem FzT.adr {d : D} (h : FrzD K kt a d) : FzT K kt (.adr a) d := fun F H v nz t e => by
  obtain rfl : v = .ref a := e
  exact h F H nz t
theorem FzT.tup {ds es : List D} (h : FzL K kt ds es) : FzT K kt (.tup ds) (.tup es) := fun F H v nz t ⟨b, xs, e1, h1, h2⟩ => ⟨b, xs, e1, h1.elim (fun q => .inl (q.elim (fun q => .inl (thF_sub t.no _ _ q)) fun ⟨z, q⟩ => .inr ⟨z, thF_sub t.no _ _ q⟩)) .inr, h.rp nz t h2⟩
end
end DL
namespace DL
open PySem L2 PySem.Spec PyProof.Rows PySem.W
end DL

/-! GB: generators that raise ahead of their first yield (own work). -/
namespace DL
open PySem L2 PySem.Spec PyProof.Rows PySem.W
/-- how a generator ends that gives nothing: by its contract, which knows no return -/
def spGX (K : PySem.W.Frag) (C : Ct) : SpG := fun vs H _ E => spC K C vs H (fun _ _ => False) E
def GFx (P : Program) (w : World) (K : PySem.W.Frag) (mg : Str → Option Value) (base : Heap) (k : Nat) (f : Addr) (ps : List Str) (C : Ct) : Prop := ∃ fd, GFn P w K mg base k f fd ps (spGX K C) ∧ L2.Binds K fd ps []
noncomputable def GFx.fd {P : Program} {w : World} {K : PySem.W.Frag} {mg : Str → Option Value} {base : Heap} {f : Addr} {ps : List Str} {k : Nat} {C : Ct} (F : GFx P w K mg base k f ps C) : FuncData := Classical.choose F
theorem GFx.ok {P : Program} {w : World} {K : PySem.W.Frag} {mg : Str → Option Value} {base : Heap} {f : Addr} {ps : List Str} {k : Nat} {C : Ct} (F : GFx P w K mg base k f ps C) : GFn P w K mg base k f F.fd ps (spGX K C) := (Classical.choose_spec F).1
theorem GFx.bn {P : Program} {w : World} {K : PySem.W.Frag} {mg : Str → Option Value} {base : Heap} {f : Addr} {ps : List Str} {k : Nat} {C : Ct} (F : GFx P w K mg base k f ps C) : L2.Binds K F.fd ps [] := (Classical.choose_spec F).2
section
variable {P : Program} {w : World} {K : PySem.W.Frag} {mg : Str → Option Value} {base : Heap} {f : Addr} {fd : FuncData} {x qual : Str} {params : Arguments} {st : Stmt} {rest body : List Stmt} {scope : Scope} {ps N : List Str} {k j : Nat} {C : Ct}
end
section
variable {K : PySem.W.Frag} {ro : Ro} {ka k2 : Cells} {tr : TA} {Cc : Ct} {E : XK} {C1 : Addr} {gs : List (Str × D)}
end
section
variable {K : PySem.W.Frag} {ro : Ro} {ka k1 k2 k3 kr : Cells} {te tf : TE} {tr : TA} {Cc : Ct} {E : XK} {C C1 : Addr} {gs : List (Str × D)} {w : W} {ws : List W}
end
end DL

/-! GC: targets that are fields, items of own objects set by their class (own work). -/
namespace DL
open PySem L2 PySem.W
section
variable {X : Cx} {k : Nat} {C f : Addr} {ps : List Str} {E : XK} {Ct' : Ct} {pos : Pos} {o : Expr} {to : TE} {x : Str}
end
section
variable {K : PySem.W.Frag} {B F0 : Hp} {ro : Ro} {ka k1 k2 k3 kr k4 : Cells} {ta : List (V × W)} {te tf tg : TE} {tr : TA} {w x y z : W} {a C : Addr} {De : Ends} {u : TS} {fs : List (Str × D)} {d d1 d2 : D} {i j : Nat} {f : Str}
end
end DL

/-! GD: x op= y of an own class within a try whose clauses read slots (own work). -/
namespace DL
open PySem L2 PySem.W
section
variable {X : Cx} {k : Nat} {C f : Addr} {ps : List Str} {E : L2.St → XK} {Cc : Ct} {e : Expr} {pos pos' : Pos} {te : TE}
end
section
variable {K : PySem.W.Frag} {B F0 : Hp} {ro : Ro} {ka k1 k2 k3 kr : Cells} {ta : List (V × W)} {te : TE} {C C1 : Addr} {fs gs : List (Str × D)} {De De' : Ends} {l : List Cla} {oi : Option Nat} {ts : Addr → Value → Option Addr → TS} {Wout : WX} {x y : W} {b : Bool} {Cc : Ct} {i : Nat} {E : L2.St → XK}
theorem EvX.less {E : XK} (h : EvX K te ro ka E C1 gs k2) (s : k3.Sublist k2) : EvX K te ro ka E C1 gs k3 := fun B F0 ta sg H Q e q => h B F0 ta sg H Q e fun dx H' e' => q dx H' (e'.less (s.append (List.Sublist.refl _)))
theorem EvX.pm {E : XK} (h : EvX K te ro k1 E C1 gs k2) (s1 : k1.Perm ka) (s2 : k2.Perm k3) : EvX K te ro ka E C1 gs k3 := fun B F0 ta sg H Q e q => h B F0 ta sg H Q (e.perm s1) fun dx H' e' => q dx H' (e'.perm (s2.symm.append_right _))
end
section
variable {K : PySem.W.Frag} {ro ro' : Ro} {t : TGs}
theorem rpl_zip {F : Hp} {B : Hp} : ∀ {ds : List D} {xs : List V}, RpL K F ds xs → ∀ p ∈ xs.zip (ds.map W.val), WOk K B F p.1 p.2
  | [], xs, h => fun p hp => by rw [show xs = [] from h] at hp; cases hp
  | d :: ds, xs, h => fun p hp => by
    obtain ⟨x, ys, rfl, h1, h2⟩ := h
    rcases List.mem_cons.mp hp with rfl | hp
    · exact h1
    · exact rpl_zip h2 p hp
/-- a list is taken apart -/
theorem at_lst {ds : List D} {m : Nat} (hm : ds.length = m) (h : AsL K t (ds.map W.val) ro ro') : AsT K (gLst K m t) (.val (.lst ds)) ro ro' := fun B F0 ka ta sg H v Q e hv q => by
  obtain ⟨F, gr, ef⟩ := id e
  obtain ⟨a, xs, rfl, s1, r1⟩ := Lk.vl.get ef (ef.tm _ hv)
  refine ⟨a, xs, rfl, .inl s1, by rw [rpl_len r1, hm], h B F0 ka (xs.zip (ds.map W.val) ++ ta) sg H xs Q ?_ (by rw [List.length_map, rpl_len r1]) (fun p hp => List.mem_append_left _ hp) fun sg' e' => q sg' (e'.held fun p hp => List.mem_append_right _ hp)⟩
  exact ⟨F, gr, { ef with tm := fun p hp => (List.mem_append.mp hp).elim (rpl_zip r1 p) (ef.tm p) }⟩
theorem at_l2 {d1 d2 : D} {i j : Nat} : AsT K (gLst K 2 (gCons (gName i) (gCons (gName j) gNil))) (.val (.lst [d1, d2])) ro ((ro.set i (some (.val d1))).set j (some (.val d2))) := at_lst rfl (al_cons at_n (al_cons at_n al_nil))
end
end DL

/-! HI: exceptions as values: made, held, asked for their attributes and classes; data D.exc (own work). -/
namespace DL
open PySem L2 PySem.W PyProof.Rows
/-! ### the readings -/
/-- what makes an exception, its object kept -/
def tExV (t : L2.St → Hp → XK → Prop) : TE := fun σ H Q => t σ H fun cls d H' => ∀ a, H' a = none → Q (.ref a) (upd H' a (ExV cls d a))
section
variable {X : Cx} {pins : List (Addr × Obj)} {σ : L2.St} {H : Hp} {s : Shared}
theorem exV_ok {P : Program} {w : World} {H : Hp} {h : Heap} {cls : Value} {d : Option Addr} {a : Addr} {oe : Obj} {vs : Array Value} (e : h.get? a = some oe) (z : Zc cls d oe) (f : oe.data = .fields vs) : ObjOk P w H h a (ExV cls d a) :=
  ⟨⟨oe, vs, e, z, f⟩, ⟨oe, e⟩, fun _ _ ⟨o, v, q, r⟩ k => ⟨o, v, k o q, r⟩⟩
theorem exV_rd (I : L2.Inv X pins σ H s) {cls : Value} {d : Option Addr} {a : Addr} (r : Rd H a (ExV cls d a)) : ∃ (oe : Obj) (vs : Array Value), s.heap.get? a = some oe ∧ Zc cls d oe ∧ oe.data = .fields vs := by
  rcases r with r | ⟨o, r⟩
  · exact (show ObjOk X.prog X.w H s.heap a (ExV cls d a) from I.hok a _ r).1
  · exact (show ObjOk X.prog X.w H s.heap a (.frz o (ExV cls d a)) from I.hok a _ r).2.1
theorem pe_exV {e : Expr} {t : L2.St → Hp → XK → Prop} (he : PMk X e t) : PE X e (tExV t) where
  run pins s σ H Q I h := by
    refine wpAny_mono (he pins s σ H _ I h) (fun u s1 z => ?_) fun _ _ y => y
    obtain ⟨a, oe, vs, sI, H1, cls, d, rfl, J, keep, free, at_, zc, dat, _, na, os, bare, _, q⟩ := z
    have new : ObjOk X.prog X.w (upd H1 a (ExV cls d a)) s1.heap a (ExV cls d a) := exV_ok at_ zc dat
    exact ⟨.ref a, _, J.call' os (Un.laidN keep free na) (J.hok.laidN keep na new) bare (fun b z => absurd z List.not_mem_nil), rfl, q a na⟩
/-- e.f of such an exception -/
def tXfV (K : PySem.W.Frag) (f : Str) (te : TE) : TE := fun σ H Q => te σ H fun x H1 => ∃ (a C dd : Addr) (fs : List (Str × V)) (v : V), x = .ref a ∧ XfC K C ∧ findIn K (.ref C) f = some none ∧ Rd H1 a (ExV (.ref C) (some dd) a) ∧ Rd H1 dd (.xd fs) ∧ fs.lookup f = some v ∧ Q v H1
theorem pe_xfV {e : Expr} {te : TE} {n : Str} {pos : Pos} (he : PE X e te) (hb : attributeBase e n X.env (eval e X.env) = eval e X.env := by rfl) : PE X (.Attribute e n pos) (tXfV X.K n te) where
  run pins s σ H Q I h := by
    refine attr_of hb (thn (he.run pins s σ H _ I h) fun u s1 z => ?_)
    obtain ⟨x, H1, I1, rx, a, C, dd, fs, v, rfl, T, hno, ra, rd, l, q⟩ := z
    obtain rfl : u = Value.ref a := rx
    obtain ⟨oe, vs, at_, zc, dat⟩ := exV_rd I1 ra
    have own : ∃ mA, s1.heap.Ns1 dd mA ∧ ∀ f, RelO (fs.lookup f) (mA f) := by
      rcases rd with r | ⟨o, r⟩
      · exact (show ObjOk X.prog X.w H1 s1.heap dd (.xd fs) from I1.hok dd _ r)
      · exact (show ObjOk X.prog X.w H1 s1.heap dd (.frz o (.xd fs)) from I1.hok dd _ r).2
    obtain ⟨mA, ns, rel⟩ := own
    obtain ⟨od, ho, look⟩ := lookIn_ns ns
    obtain ⟨u, hu, ru⟩ := RelO.some_of (v := v) (o := mA n) (by rw [← l]; exact rel n)
    have J : InstAt s1.heap a oe C (some od) := ⟨at_, zc.1, by unfold notCls; rw [dat] <;> rfl, by rw [zc.2]; exact ho⟩
    exact HandSPX.exc_get I1.kIn J T.ga T.gg T.exC (findObj_own T.hdC hno rfl (by rw [look, hu])) (handed_of ru) ⟨v, H1, I1.tok _, ru, q⟩
def rIsiV (K : PySem.W.Frag) : List V → Hp → VK → Prop := fun xs H Q => ∃ (a C : Addr) (d : Option Addr) (c : V) (u : Value) (b : Bool), xs = [.ref a, c] ∧ ClsV c u ∧ KxC K C ∧ Rd H a (ExV (.ref C) d a) ∧ (∀ dd, d = some dd → ∃ fs, Rd H dd (.xd fs)) ∧ kitOne K (.ref C) u = some b ∧ Q (.bl b) H
theorem call_isiV : CallR X (.builtin "isinstance") (rIsiV X.K) := by
  intro pins s σ H xs us Q I r h
  obtain ⟨a, C, d, c, u, b, rfl, k, T, ra, hd, e, q⟩ := h
  obtain ⟨u1, u2, rfl, r1, r2⟩ := vals2 r
  have e2 := k.eq r2
  subst e2
  obtain rfl : u1 = Value.ref a := r1
  obtain ⟨oe, vs, at_, zc, dat⟩ := exV_rd I ra
  have J : ∃ od, InstAt s.heap a oe C od := by
    cases d with
    | none => exact ⟨none, at_, zc.1, by unfold notCls; rw [dat] <;> rfl, by rw [zc.2]; trivial⟩
    | some dd =>
      obtain ⟨fs, rd⟩ := hd dd rfl
      have own : ∃ mA, s.heap.Ns1 dd mA ∧ ∀ f, RelO (fs.lookup f) (mA f) := by
        rcases rd with r | ⟨o, r⟩
        · exact (show ObjOk X.prog X.w H s.heap dd (.xd fs) from I.hok dd _ r)
        · exact (show ObjOk X.prog X.w H s.heap dd (.frz o (.xd fs)) from I.hok dd _ r).2
      obtain ⟨mA, ns, _⟩ := own
      obtain ⟨od, ho, _⟩ := lookIn_ns ns
      exact ⟨some od, at_, zc.1, by unfold notCls; rw [dat] <;> rfl, by rw [zc.2]; exact ho⟩
  obtain ⟨od, J⟩ := J
  exact kia_one (kitx_exc T.cl T.xf.ga T.xf.gg T.xf.exC T.at_ T.sp T.tk T.mr) I.kIn J e (fun z => nomatch z) fun tk => ⟨.bl b, H, I.tok tk, rfl, q⟩
end
/-! ### by data -/
section
variable {K : PySem.W.Frag} {B F F0 : Hp} {ro : Ro} {ka k1 k2 : Cells} {ta : List (V × W)} {sg : L2.St} {H : Hp} {te tf : TE} {tr : TA} {C C2 : Addr} {gs : List (Str × D)} {d : D} {b : Bool}
/-- an exception's dict goes into what is frozen -/
theorem EnF.take_x {dx : Addr} (e : EnF K B F ro (ka ++ [(dx, .xd gs)]) ta sg H) : ∃ F' xs, Gr B F F' ∧ EnF K B F' ro ka ta sg H ∧ F' dx = some (.xd xs) ∧ RpF K F' gs xs := by
  obtain ⟨fa, ba, xs, at_, rel⟩ := e.ce (dx, .xd gs) (List.mem_append_right _ List.mem_cons_self)
  have fa : F dx = none := fa
  have ba : B dx = none := ba
  have at_ : H dx = some (.xd xs) := at_
  have gr : Gr B F (upd F dx (.xd xs)) := ⟨Sub.new fa, fun b h1 h2 => by
    have q : b ≠ dx := fun q => h2 (by rw [q]; exact ba)
    rw [upd_ne q]
    exact h1⟩
  have nds := e.nd
  rw [List.map_append, List.nodup_append] at nds
  refine ⟨_, xs, gr, ⟨fun b u h => ?_, fun b u h => ?_, e.fr, nds.1, fun p hp => ?_, e.ln, fun i w h => ?_, fun p hp => wok_gr e.nz gr (e.tm p hp)⟩, upd_same, RpF.mono gr.sub.exz e.nz _ _ rel⟩
  · by_cases q : b = dx
    · subst q; rw [upd_same] at h; cases h; rfl
    · rw [upd_ne q] at h; exact e.nz b u h
  · by_cases q : b = dx
    · subst q; rw [upd_same] at h; cases h; exact .inl at_
    · rw [upd_ne q] at h; exact e.fz b u h
  · obtain ⟨c1, c2, c3⟩ := e.ce p (List.mem_append_left _ hp)
    have ne : p.1 ≠ dx := fun q => nds.2.2 p.1 (List.mem_map.mpr ⟨p, hp, rfl⟩) dx List.mem_cons_self q
    exact ⟨by rw [upd_ne ne]; exact c1, c2, ndok_gr e.nz gr c3⟩
  · obtain ⟨v, h1, h2⟩ := e.sl i w h
    exact ⟨v, h1, wok_gr e.nz gr h2⟩
theorem exc_laid {dx a : Addr} {Q : VK} (e : En K B F0 ro (ka ++ [(dx, .xd gs)]) ta sg H) (hn : H a = none) (q : ∀ v H', En K B F0 ro ka ((v, .val (.exc C gs)) :: ta) sg H' → Q v H') : Q (.ref a) (upd H a (ExV (.ref C) (some dx) a)) := by
  obtain ⟨F, g, e1⟩ := e
  obtain ⟨F2, xs, g2, e2, hx, rx⟩ := e1.take_x
  obtain ⟨e3, g3⟩ := e2.lay (o := ExV (.ref C) (some dx) a) hn rfl
  exact q _ _ ⟨_, (g.trans g2).trans g3, e3.push ⟨a, some dx, xs, rfl, .inl upd_same, .inr ⟨dx, rfl, .inl (g3.sub _ _ hx)⟩, RpF.mono g3.sub.exz e2.nz _ _ rx⟩⟩
theorem ev_exc1 {fld : Str} (ha : EvA K tr ro ka [.val d] k1) (T : OexC K C) (hno : findIn K (.ref C) fld = some none) : EvD K (tExV (tMkO C (spI1 K C fld) [] tr)) ro ka (.val (.exc C [(fld, d)])) k1 := fun B F0 ta sg H Q e q =>
  mk1_of (Q := fun cls dd H' => ∀ a, H' a = none → Q (.ref a) (upd H' a (ExV cls dd a))) ha T hno e fun dx H' e' a hn => exc_laid e' hn q
theorem ev_exc3 {f1 f2 f3 : Str} {d1 d2 d3 : D} (ha : EvA K tr ro ka [.val d1, .val d2, .val d3] k1) (T : OexC K C) (h1 : findIn K (.ref C) f1 = some none) (h2 : findIn K (.ref C) f2 = some none) (h3 : findIn K (.ref C) f3 = some none) : EvD K (tExV (tMkO C (spI3 K C f1 f2 f3) [] tr)) ro ka (.val (.exc C [(f3, d3), (f2, d2), (f1, d1)])) k1 := fun B F0 ta sg H Q e q =>
  mk3_of (Q := fun cls dd H' => ∀ a, H' a = none → Q (.ref a) (upd H' a (ExV cls dd a))) ha T h1 h2 h3 e fun dx H' e' a hn => exc_laid e' hn q
theorem ev_exc0 : EvD K (tExV (fun _ H Q => Q (.ref C) none H)) ro ka (.val (.exc C [])) ka := fun B F0 ta sg H Q ⟨F, g, e⟩ q a hn => by
  obtain ⟨e3, g3⟩ := e.lay (o := ExV (.ref C) none a) hn rfl
  exact q _ _ ⟨_, g.trans g3, e3.push ⟨a, none, [], rfl, .inl upd_same, .inl ⟨rfl, rfl⟩, rfl⟩⟩
theorem ev_xfV {f : Str} (h : EvD K te ro ka (.val (.exc C gs)) k1) (T : XfC K C) (hno : findIn K (.ref C) f = some none) (hl : gs.lookup f = some d) : EvD K (tXfV K f te) ro ka (.val d) k1 := fun B F0 ta sg H Q e q => h B F0 ta sg H _ e fun v H1 e1 => by
  obtain ⟨F, g, ef⟩ := e1
  obtain ⟨a, dd, xs, rfl, ra, hd, rf⟩ := ef.tm _ List.mem_cons_self
  obtain ⟨v, hv, rv⟩ := rpf_lookup rf hl
  rcases hd with ⟨rfl, rfl⟩ | ⟨dd, rfl, rd⟩
  · cases hv
  · exact ⟨a, C, dd, xs, v, rfl, T, hno, ef.fz.rd ef.nz ra, ef.fz.rd ef.nz rd, hv, q _ _ ⟨F, g, (ef.held fun p hp => List.mem_cons_of_mem _ hp).push rv⟩⟩
theorem ev_isiV (h : EvD K te ro ka (.val (.exc C gs)) k1) (T : KxC K C) (hk : kitOne K (.ref C) (.ref C2) = some b) : EvD K (tCB (rIsiV K) (tCons te (tCons (tC (.ref C2)) tNil))) ro ka (.val (.bl b)) k1 := fun B F0 ta sg H Q e q => h B F0 ta sg H _ e fun v H1 e1 => by
  obtain ⟨F, g, ef⟩ := id e1
  obtain ⟨a, dd, xs, rfl, ra, hd, rf⟩ := ef.tm _ List.mem_cons_self
  refine ⟨a, C, dd, .ref C2, .ref C2, b, rfl, .own C2, T, ef.fz.rd ef.nz ra, fun x hx => ?_, hk, q _ _ (e1.pop.push_imm fun _ => rfl)⟩
  rcases hd with ⟨rfl, _⟩ | ⟨y, rfl, rd⟩
  · cases hx
  · cases hx
    exact ⟨xs, ef.fz.rd ef.nz rd⟩
theorem ev_isiT {n : String} (h : EvD K te ro ka (.val (.exc C gs)) k1) (T : KxC K C) (hk : kitOne K (.ref C) (.type n) = some b) : EvD K (tCB (rIsiV K) (tCons te (tCons (tC (.ty n)) tNil))) ro ka (.val (.bl b)) k1 := fun B F0 ta sg H Q e q => h B F0 ta sg H _ e fun v H1 e1 => by
  obtain ⟨F, g, ef⟩ := id e1
  obtain ⟨a, dd, xs, rfl, ra, hd, rf⟩ := ef.tm _ List.mem_cons_self
  refine ⟨a, C, dd, .ty n, .type n, b, rfl, .ty n, T, ef.fz.rd ef.nz ra, fun x hx => ?_, hk, q _ _ (e1.pop.push_imm fun _ => rfl)⟩
  rcases hd with ⟨rfl, _⟩ | ⟨y, rfl, rd⟩
  · cases hx
  · cases hx
    exact ⟨xs, ef.fz.rd ef.nz rd⟩
end
end DL

namespace K01
open PySem L2 DL PySem.W
structure Tx (K : PySem.W.Frag) (mg : Str → Option Value) : Prop where
  errs : ErrC K ["BadName", "NameTaken", "NoPost", "NoLane", "Clash", "NoPattern", "NoRun", "SameLane", "Brought", "StillWanted", "NotWanted", "BadWalk", "BadText", "BadDeed", "OneRing", "NotSure", "BadNumber", "BadWord", "BadLine", "NoRound", "EmptyWalk", "EmptyWord", "NotWalk", "NotOnePart", "NothingWanted", "NothingBack"] "ShowError"
  n_len : mg "len" = none
  n_int : mg "int" = none
  n_str : mg "str" = none
  n_abs : mg "abs" = none
  g_SameLane : mg "SameLane" = some (.ref (He.ga K "SameLane")) ∧ keepIn K (.ref (He.ga K "SameLane")) = true
  g_NoRun : mg "NoRun" = some (.ref (He.ga K "NoRun")) ∧ keepIn K (.ref (He.ga K "NoRun")) = true
  g_NoPattern : mg "NoPattern" = some (.ref (He.ga K "NoPattern")) ∧ keepIn K (.ref (He.ga K "NoPattern")) = true
  g_Clash : mg "Clash" = some (.ref (He.ga K "Clash")) ∧ keepIn K (.ref (He.ga K "Clash")) = true
  g_NoLane : mg "NoLane" = some (.ref (He.ga K "NoLane")) ∧ keepIn K (.ref (He.ga K "NoLane")) = true
  g_NoPost : mg "NoPost" = some (.ref (He.ga K "NoPost")) ∧ keepIn K (.ref (He.ga K "NoPost")) = true
  g_NameTaken : mg "NameTaken" = some (.ref (He.ga K "NameTaken")) ∧ keepIn K (.ref (He.ga K "NameTaken")) = true
  g_BadName : mg "BadName" = some (.ref (He.ga K "BadName")) ∧ keepIn K (.ref (He.ga K "BadName")) = true
  g_NotWanted : mg "NotWanted" = some (.ref (He.ga K "NotWanted")) ∧ keepIn K (.ref (He.ga K "NotWanted")) = true
  g_StillWanted : mg "StillWanted" = some (.ref (He.ga K "StillWanted")) ∧ keepIn K (.ref (He.ga K "StillWanted")) = true
  g_Brought : mg "Brought" = some (.ref (He.ga K "Brought")) ∧ keepIn K (.ref (He.ga K "Brought")) = true
  g_BadDeed : mg "BadDeed" = some (.ref (He.ga K "BadDeed")) ∧ keepIn K (.ref (He.ga K "BadDeed")) = true
  g_BadText : mg "BadText" = some (.ref (He.ga K "BadText")) ∧ keepIn K (.ref (He.ga K "BadText")) = true
  g_BadWalk : mg "BadWalk" = some (.ref (He.ga K "BadWalk")) ∧ keepIn K (.ref (He.ga K "BadWalk")) = true
  g_NotSure : mg "NotSure" = some (.ref (He.ga K "NotSure")) ∧ keepIn K (.ref (He.ga K "NotSure")) = true
  g_OneRing : mg "OneRing" = some (.ref (He.ga K "OneRing")) ∧ keepIn K (.ref (He.ga K "OneRing")) = true
  g_BadLine : mg "BadLine" = some (.ref (He.ga K "BadLine")) ∧ keepIn K (.ref (He.ga K "BadLine")) = true
  g_BadWord : mg "BadWord" = some (.ref (He.ga K "BadWord")) ∧ keepIn K (.ref (He.ga K "BadWord")) = true
  g_BadNumber : mg "BadNumber" = some (.ref (He.ga K "BadNumber")) ∧ keepIn K (.ref (He.ga K "BadNumber")) = true
  n_isinstance : mg "isinstance" = none
  g_NoRound : mg "NoRound" = some (.ref (He.ga K "NoRound")) ∧ keepIn K (.ref (He.ga K "NoRound")) = true
  g_NotWalk : mg "NotWalk" = some (.ref (He.ga K "NotWalk")) ∧ keepIn K (.ref (He.ga K "NotWalk")) = true
  g_EmptyWord : mg "EmptyWord" = some (.ref (He.ga K "EmptyWord")) ∧ keepIn K (.ref (He.ga K "EmptyWord")) = true
  g_EmptyWalk : mg "EmptyWalk" = some (.ref (He.ga K "EmptyWalk")) ∧ keepIn K (.ref (He.ga K "EmptyWalk")) = true
  g_NothingBack : mg "NothingBack" = some (.ref (He.ga K "NothingBack")) ∧ keepIn K (.ref (He.ga K "NothingBack")) = true
  g_NothingWanted : mg "NothingWanted" = some (.ref (He.ga K "NothingWanted")) ∧ keepIn K (.ref (He.ga K "NothingWanted")) = true
  g_NotOnePart : mg "NotOnePart" = some (.ref (He.ga K "NotOnePart")) ∧ keepIn K (.ref (He.ga K "NotOnePart")) = true
  n_range : mg "range" = none
  n_ValueError : mg "ValueError" = none
  g_ShowError : mg "ShowError" = some (.ref (He.ga K "ShowError")) ∧ keepIn K (.ref (He.ga K "ShowError")) = true
  g_law_classes : mg "_law_classes" = some (.ref (He.ga K "_law_classes")) ∧ keepIn K (.ref (He.ga K "_law_classes")) = true
  g_law_thing : mg "_law_thing" = some (.ref (He.ga K "_law_thing")) ∧ keepIn K (.ref (He.ga K "_law_thing")) = true
  g_law_cell : mg "_law_cell" = some (.ref (He.ga K "_law_cell")) ∧ keepIn K (.ref (He.ga K "_law_cell")) = true
  g_law_named : mg "_law_named" = some (.ref (He.ga K "_law_named")) ∧ keepIn K (.ref (He.ga K "_law_named")) = true
  n_enumerate : mg "enumerate" = none
  g_law_alone : mg "_law_alone" = some (.ref (He.ga K "_law_alone")) ∧ keepIn K (.ref (He.ga K "_law_alone")) = true
  x0_NothingBack : excIn K (He.ga K "NothingBack") He.veBase "ValueError.__new__" = true ∧ keepIn K (.ref (He.ga K "NothingBack")) = true ∧ subIn K (.ref (He.ga K "NothingBack")) (.type "BaseException") = some true ∧ typeIn K (.ref (He.ga K "NothingBack")) = some (.type "type")
  x0_NothingWanted : excIn K (He.ga K "NothingWanted") He.veBase "ValueError.__new__" = true ∧ keepIn K (.ref (He.ga K "NothingWanted")) = true ∧ subIn K (.ref (He.ga K "NothingWanted")) (.type "BaseException") = some true ∧ typeIn K (.ref (He.ga K "NothingWanted")) = some (.type "type")
  x0_NotOnePart : excIn K (He.ga K "NotOnePart") He.veBase "ValueError.__new__" = true ∧ keepIn K (.ref (He.ga K "NotOnePart")) = true ∧ subIn K (.ref (He.ga K "NotOnePart")) (.type "BaseException") = some true ∧ typeIn K (.ref (He.ga K "NotOnePart")) = some (.type "type")
  x0_NotWalk : excIn K (He.ga K "NotWalk") He.veBase "ValueError.__new__" = true ∧ keepIn K (.ref (He.ga K "NotWalk")) = true ∧ subIn K (.ref (He.ga K "NotWalk")) (.type "BaseException") = some true ∧ typeIn K (.ref (He.ga K "NotWalk")) = some (.type "type")
  x0_EmptyWord : excIn K (He.ga K "EmptyWord") He.veBase "ValueError.__new__" = true ∧ keepIn K (.ref (He.ga K "EmptyWord")) = true ∧ subIn K (.ref (He.ga K "EmptyWord")) (.type "BaseException") = some true ∧ typeIn K (.ref (He.ga K "EmptyWord")) = some (.type "type")
  x0_EmptyWalk : excIn K (He.ga K "EmptyWalk") He.veBase "ValueError.__new__" = true ∧ keepIn K (.ref (He.ga K "EmptyWalk")) = true ∧ subIn K (.ref (He.ga K "EmptyWalk")) (.type "BaseException") = some true ∧ typeIn K (.ref (He.ga K "EmptyWalk")) = some (.type "type")
  xc_BadDeed : Xc K (He.ga K "BadDeed")
  xi_BadDeed : findIn K (.ref (He.ga K "BadDeed")) "__init__" = some (some (.ref (He.ma K (He.ga K "BadDeed") "__init__"))) ∧ typeIn K (.ref (He.ma K (He.ga K "BadDeed") "__init__")) = some (.type "function")
  xn_BadDeed_place : findIn K (.ref (He.ga K "BadDeed")) "place" = some none
  xc_BadLine : Xc K (He.ga K "BadLine")
  xi_BadLine : findIn K (.ref (He.ga K "BadLine")) "__init__" = some (some (.ref (He.ma K (He.ga K "BadLine") "__init__"))) ∧ typeIn K (.ref (He.ma K (He.ga K "BadLine") "__init__")) = some (.type "function")
  xn_BadLine_line : findIn K (.ref (He.ga K "BadLine")) "line" = some none
  xc_BadName : Xc K (He.ga K "BadName")
  xi_BadName : findIn K (.ref (He.ga K "BadName")) "__init__" = some (some (.ref (He.ma K (He.ga K "BadName") "__init__"))) ∧ typeIn K (.ref (He.ma K (He.ga K "BadName") "__init__")) = some (.type "function")
  xn_BadName_name : findIn K (.ref (He.ga K "BadName")) "name" = some none
  xc_BadNumber : Xc K (He.ga K "BadNumber")
  xi_BadNumber : findIn K (.ref (He.ga K "BadNumber")) "__init__" = some (some (.ref (He.ma K (He.ga K "BadNumber") "__init__"))) ∧ typeIn K (.ref (He.ma K (He.ga K "BadNumber") "__init__")) = some (.type "function")
  xn_BadNumber_value : findIn K (.ref (He.ga K "BadNumber")) "value" = some none
  xc_BadText : Xc K (He.ga K "BadText")
  xi_BadText : findIn K (.ref (He.ga K "BadText")) "__init__" = some (some (.ref (He.ma K (He.ga K "BadText") "__init__"))) ∧ typeIn K (.ref (He.ma K (He.ga K "BadText") "__init__")) = some (.type "function")
  xn_BadText_place : findIn K (.ref (He.ga K "BadText")) "place" = some none
  xc_BadWalk : Xc K (He.ga K "BadWalk")
  xi_BadWalk : findIn K (.ref (He.ga K "BadWalk")) "__init__" = some (some (.ref (He.ma K (He.ga K "BadWalk") "__init__"))) ∧ typeIn K (.ref (He.ma K (He.ga K "BadWalk") "__init__")) = some (.type "function")
  xn_BadWalk_place : findIn K (.ref (He.ga K "BadWalk")) "place" = some none
  xc_BadWord : Xc K (He.ga K "BadWord")
  xi_BadWord : findIn K (.ref (He.ga K "BadWord")) "__init__" = some (some (.ref (He.ma K (He.ga K "BadWord") "__init__"))) ∧ typeIn K (.ref (He.ma K (He.ga K "BadWord") "__init__")) = some (.type "function")
  xn_BadWord_word : findIn K (.ref (He.ga K "BadWord")) "word" = some none
  xc_Brought : Xc K (He.ga K "Brought")
  xi_Brought : findIn K (.ref (He.ga K "Brought")) "__init__" = some (some (.ref (He.ma K (He.ga K "Brought") "__init__"))) ∧ typeIn K (.ref (He.ma K (He.ga K "Brought") "__init__")) = some (.type "function")
  xn_Brought_name : findIn K (.ref (He.ga K "Brought")) "name" = some none
  xc_Clash : Xc K (He.ga K "Clash")
  xi_Clash : findIn K (.ref (He.ga K "Clash")) "__init__" = some (some (.ref (He.ma K (He.ga K "Clash") "__init__"))) ∧ typeIn K (.ref (He.ma K (He.ga K "Clash") "__init__")) = some (.type "function")
  xn_Clash_name : findIn K (.ref (He.ga K "Clash")) "name" = some none
  xc_NameTaken : Xc K (He.ga K "NameTaken")
  xi_NameTaken : findIn K (.ref (He.ga K "NameTaken")) "__init__" = some (some (.ref (He.ma K (He.ga K "NameTaken") "__init__"))) ∧ typeIn K (.ref (He.ma K (He.ga K "NameTaken") "__init__")) = some (.type "function")
  xn_NameTaken_name : findIn K (.ref (He.ga K "NameTaken")) "name" = some none
  xc_NoLane : Xc K (He.ga K "NoLane")
  xi_NoLane : findIn K (.ref (He.ga K "NoLane")) "__init__" = some (some (.ref (He.ma K (He.ga K "NoLane") "__init__"))) ∧ typeIn K (.ref (He.ma K (He.ga K "NoLane") "__init__")) = some (.type "function")
  xn_NoLane_name : findIn K (.ref (He.ga K "NoLane")) "name" = some none
  xc_NoPattern : Xc K (He.ga K "NoPattern")
  xi_NoPattern : findIn K (.ref (He.ga K "NoPattern")) "__init__" = some (some (.ref (He.ma K (He.ga K "NoPattern") "__init__"))) ∧ typeIn K (.ref (He.ma K (He.ga K "NoPattern") "__init__")) = some (.type "function")
  xn_NoPattern_name : findIn K (.ref (He.ga K "NoPattern")) "name" = some none
  xc_NoPost : Xc K (He.ga K "NoPost")
  xi_NoPost : findIn K (.ref (He.ga K "NoPost")) "__init__" = some (some (.ref (He.ma K (He.ga K "NoPost") "__init__"))) ∧ typeIn K (.ref (He.ma K (He.ga K "NoPost") "__init__")) = some (.type "function")
  xn_NoPost_name : findIn K (.ref (He.ga K "NoPost")) "name" = some none
  xc_NoRun : Xc K (He.ga K "NoRun")
  xi_NoRun : findIn K (.ref (He.ga K "NoRun")) "__init__" = some (some (.ref (He.ma K (He.ga K "NoRun") "__init__"))) ∧ typeIn K (.ref (He.ma K (He.ga K "NoRun") "__init__")) = some (.type "function")
  xn_NoRun_name : findIn K (.ref (He.ga K "NoRun")) "name" = some none
  xc_NotSure : Xc K (He.ga K "NotSure")
  xi_NotSure : findIn K (.ref (He.ga K "NotSure")) "__init__" = some (some (.ref (He.ma K (He.ga K "NotSure") "__init__"))) ∧ typeIn K (.ref (He.ma K (He.ga K "NotSure") "__init__")) = some (.type "function")
  xn_NotSure_ring : findIn K (.ref (He.ga K "NotSure")) "ring" = some none
  xc_NotWanted : Xc K (He.ga K "NotWanted")
  xi_NotWanted : findIn K (.ref (He.ga K "NotWanted")) "__init__" = some (some (.ref (He.ma K (He.ga K "NotWanted") "__init__"))) ∧ typeIn K (.ref (He.ma K (He.ga K "NotWanted") "__init__")) = some (.type "function")
  xn_NotWanted_name : findIn K (.ref (He.ga K "NotWanted")) "name" = some none
  xc_OneRing : Xc K (He.ga K "OneRing")
  xi_OneRing : findIn K (.ref (He.ga K "OneRing")) "__init__" = some (some (.ref (He.ma K (He.ga K "OneRing") "__init__"))) ∧ typeIn K (.ref (He.ma K (He.ga K "OneRing") "__init__")) = some (.type "function")
  xn_OneRing_ring : findIn K (.ref (He.ga K "OneRing")) "ring" = some none
  xc_SameLane : Xc K (He.ga K "SameLane")
  xi_SameLane : findIn K (.ref (He.ga K "SameLane")) "__init__" = some (some (.ref (He.ma K (He.ga K "SameLane") "__init__"))) ∧ typeIn K (.ref (He.ma K (He.ga K "SameLane") "__init__")) = some (.type "function")
  xn_SameLane_name : findIn K (.ref (He.ga K "SameLane")) "name" = some none
  xc_StillWanted : Xc K (He.ga K "StillWanted")
  xi_StillWanted : findIn K (.ref (He.ga K "StillWanted")) "__init__" = some (some (.ref (He.ma K (He.ga K "StillWanted") "__init__"))) ∧ typeIn K (.ref (He.ma K (He.ga K "StillWanted") "__init__")) = some (.type "function")
  xn_StillWanted_name : findIn K (.ref (He.ga K "StillWanted")) "name" = some none
  xc_NoRound : Xc K (He.ga K "NoRound")
  xi_NoRound : findIn K (.ref (He.ga K "NoRound")) "__init__" = some (some (.ref (He.ma K (He.ga K "NoRound") "__init__"))) ∧ typeIn K (.ref (He.ma K (He.ga K "NoRound") "__init__")) = some (.type "function")
  xn_NoRound_first : findIn K (.ref (He.ga K "NoRound")) "first" = some none
  xn_NoRound_second : findIn K (.ref (He.ga K "NoRound")) "second" = some none
  xn_NoRound_side : findIn K (.ref (He.ga K "NoRound")) "side" = some none
  g_law : mg "law" = some (.ref (He.ga K "law")) ∧ keepIn K (.ref (He.ga K "law")) = true
  d_law_cell : ∃ fd, FunD K "_law_cell" "_law_cell" (defArgs s_law_cell) (defBody s_law_cell) (defScope s_law_cell) [] [] (He.ga K "_law_cell") fd
  d_law_thing : ∃ fd, FunD K "_law_thing" "_law_thing" (defArgs s_law_thing) (defBody s_law_thing) (defScope s_law_thing) [] [] (He.ga K "_law_thing") fd
  d_law_named : ∃ fd, FunD K "_law_named" "_law_named" (defArgs s_law_named) (defBody s_law_named) (defScope s_law_named) [] [] (He.ga K "_law_named") fd
  d_law_classes : ∃ fd, FunD K "_law_classes" "_law_classes" (defArgs s_law_classes) (defBody s_law_classes) (defScope s_law_classes) [] [] (He.ga K "_law_classes") fd
  d_law_alone : ∃ fd, FunD K "_law_alone" "_law_alone" (defArgs s_law_alone) (defBody s_law_alone) (defScope s_law_alone) [] [] (He.ga K "_law_alone") fd
  d_law : ∃ fd, FunD K "law" "law" (defArgs s_law) (defBody s_law) (defScope s_law) [] [] (He.ga K "law") fd
  d_BadDeed___init : ∃ fd, FunD K "__init__" "BadDeed.__init__" (defArgs s_BadDeed___init) (defBody s_BadDeed___init) (defScope s_BadDeed___init) [] [] (He.ma K (He.ga K "BadDeed") "__init__") fd
  d_BadLine___init : ∃ fd, FunD K "__init__" "BadLine.__init__" (defArgs s_BadLine___init) (defBody s_BadLine___init) (defScope s_BadLine___init) [] [] (He.ma K (He.ga K "BadLine") "__init__") fd
  d_BadName___init : ∃ fd, FunD K "__init__" "BadName.__init__" (defArgs s_BadName___init) (defBody s_BadName___init) (defScope s_BadName___init) [] [] (He.ma K (He.ga K "BadName") "__init__") fd
  d_BadNumber___init : ∃ fd, FunD K "__init__" "BadNumber.__init__" (defArgs s_BadNumber___init) (defBody s_BadNumber___init) (defScope s_BadNumber___init) [] [] (He.ma K (He.ga K "BadNumber") "__init__") fd
  d_BadText___init : ∃ fd, FunD K "__init__" "BadText.__init__" (defArgs s_BadText___init) (defBody s_BadText___init) (defScope s_BadText___init) [] [] (He.ma K (He.ga K "BadText") "__init__") fd
  d_BadWalk___init : ∃ fd, FunD K "__init__" "BadWalk.__init__" (defArgs s_BadWalk___init) (defBody s_BadWalk___init) (defScope s_BadWalk___init) [] [] (He.ma K (He.ga K "BadWalk") "__init__") fd
  d_BadWord___init : ∃ fd, FunD K "__init__" "BadWord.__init__" (defArgs s_BadWord___init) (defBody s_BadWord___init) (defScope s_BadWord___init) [] [] (He.ma K (He.ga K "BadWord") "__init__") fd
  d_Brought___init : ∃ fd, FunD K "__init__" "Brought.__init__" (defArgs s_Brought___init) (defBody s_Brought___init) (defScope s_Brought___init) [] [] (He.ma K (He.ga K "Brought") "__init__") fd
  d_Clash___init : ∃ fd, FunD K "__init__" "Clash.__init__" (defArgs s_Clash___init) (defBody s_Clash___init) (defScope s_Clash___init) [] [] (He.ma K (He.ga K "Clash") "__init__") fd
  d_NameTaken___init : ∃ fd, FunD K "__init__" "NameTaken.__init__" (defArgs s_NameTaken___init) (defBody s_NameTaken___init) (defScope s_NameTaken___init) [] [] (He.ma K (He.ga K "NameTaken") "__init__") fd
  d_NoLane___init : ∃ fd, FunD K "__init__" "NoLane.__init__" (defArgs s_NoLane___init) (defBody s_NoLane___init) (defScope s_NoLane___init) [] [] (He.ma K (He.ga K "NoLane") "__init__") fd
  d_NoPattern___init : ∃ fd, FunD K "__init__" "NoPattern.__init__" (defArgs s_NoPattern___init) (defBody s_NoPattern___init) (defScope s_NoPattern___init) [] [] (He.ma K (He.ga K "NoPattern") "__init__") fd
  d_NoPost___init : ∃ fd, FunD K "__init__" "NoPost.__init__" (defArgs s_NoPost___init) (defBody s_NoPost___init) (defScope s_NoPost___init) [] [] (He.ma K (He.ga K "NoPost") "__init__") fd
  d_NoRun___init : ∃ fd, FunD K "__init__" "NoRun.__init__" (defArgs s_NoRun___init) (defBody s_NoRun___init) (defScope s_NoRun___init) [] [] (He.ma K (He.ga K "NoRun") "__init__") fd
  d_NotSure___init : ∃ fd, FunD K "__init__" "NotSure.__init__" (defArgs s_NotSure___init) (defBody s_NotSure___init) (defScope s_NotSure___init) [] [] (He.ma K (He.ga K "NotSure") "__init__") fd
  d_NotWanted___init : ∃ fd, FunD K "__init__" "NotWanted.__init__" (defArgs s_NotWanted___init) (defBody s_NotWanted___init) (defScope s_NotWanted___init) [] [] (He.ma K (He.ga K "NotWanted") "__init__") fd
  d_OneRing___init : ∃ fd, FunD K "__init__" "OneRing.__init__" (defArgs s_OneRing___init) (defBody s_OneRing___init) (defScope s_OneRing___init) [] [] (He.ma K (He.ga K "OneRing") "__init__") fd
  d_SameLane___init : ∃ fd, FunD K "__init__" "SameLane.__init__" (defArgs s_SameLane___init) (defBody s_SameLane___init) (defScope s_SameLane___init) [] [] (He.ma K (He.ga K "SameLane") "__init__") fd
  d_StillWanted___init : ∃ fd, FunD K "__init__" "StillWanted.__init__" (defArgs s_StillWanted___init) (defBody s_StillWanted___init) (defScope s_StillWanted___init) [] [] (He.ma K (He.ga K "StillWanted") "__init__") fd
  d_NoRound___init : ∃ fd, FunD K "__init__" "NoRound.__init__" (defArgs s_NoRound___init) (defBody s_NoRound___init) (defScope s_NoRound___init) [] [] (He.ma K (He.ga K "NoRound") "__init__") fd
section
variable {P : Program} {w : World} {K : PySem.W.Frag} {mg : Str → Option Value} {base : Heap}
end
theorem ev_lenK {K : PySem.W.Frag} {ro : Ro} {ka k1 : Cells} {te : TE} {p : Addr} {ns : List Int} (h : EvD K te ro ka (.val (.adr p)) k1) (hk : ∀ H, SqL K H p (ns.map V.int)) : EvD K (tCB (rLenU K) (tCons te tNil)) ro ka (.val (.int ns.length)) k1 := fun B F0 ta sg H Q e q => h B F0 ta sg H _ e fun v H1 e1 => .inl ⟨p, ns.map V.int, by rw [e1.tm_adr List.mem_cons_self], .inl (hk H1), by
  rw [List.length_map]
  exact q _ _ (e1.pop.push_imm fun _ => rfl)⟩
theorem ev_ixK {K : PySem.W.Frag} {ro : Ro} {ka k1 k2 : Cells} {te tf : TE} {p : Addr} {ns : List Int} {i : Nat} {z : Int} (h : EvD K te ro ka (.val (.adr p)) k1) (h2 : EvD K tf ro k1 (.val (.int i)) k2) (hk : ∀ H, SqL K H p (ns.map V.int)) (hz : ns[i]? = some z) : EvD K (tOp (rIx K) te tf) ro ka (.val (.int z)) k2 := ev_op h h2 fun B F0 ro ta sg H u v Q e h1 h2 q =>
  .inl ⟨p, ns.map V.int, i, .int z, e.tm_adr h1, e.tm_int h2, hk H, atI_nat (by rw [List.getElem?_map, hz]; rfl), q _ _ (e.push_imm fun _ => rfl)⟩
def ct_law_cell (K : PySem.W.Frag) : Ct := Ct2 fun a b ka out => ∃ ns, ∃ k : Nat, Scr K a ns ∧ b = .val (.int k) ∧ ka = [] ∧ out = Rt (.int (ns.getD k 0)) []
section
variable {P : Program} {w : World} {K : PySem.W.Frag} {mg : Str → Option Value} {base : Heap}
theorem ok_law_cell (T : Tx K mg) : Fn P w K mg base 4 (He.ga K "_law_cell") ["_law_script", "_law_k"] (ct_law_cell K) := by
  obtain ⟨fd, F⟩ := T.d_law_cell
  refine fn_ok F sc_law_cell (fun _ _ _ _ _ _ us hl => match us, hl with | [_, _], _ => rfl) ct2_len (fun cdv A outer s H E hr => ⟨_, (pss_cons (ps_if (pt_cmpR op_lt (pv 1) (pe_callB call_lenU rfl T.n_len (by decide +kernel) (pa_cons (pv 0) pa_nil)) (nomark _))
      (pss_one (ps_ret (pe_ix ix_seq (pv 0) (pv 1) fun _ _ => rfl)))
      pss_nil)
      (pss_one (ps_ret pe_int))), fun ws ka out B F0 Q hC hR hX => ?_⟩)
  obtain ⟨a, b, rfl, ns, k, hs, rfl, rfl, rfl⟩ := hC
  have out0 : ¬ k < ns.length → ns.getD k 0 = 0 := fun h => by
    rw [List.getD_eq_getElem?_getD, List.getElem?_eq_none (by omega)]
    rfl
  have in0 : k < ns.length → ns[k]? = some (ns.getD k 0) := fun h => by
    rw [List.getD_eq_getElem?_getD, List.getElem?_eq_getElem h]
    rfl
  rcases hs with rfl | ⟨p, rfl, hk⟩
  · have hl : (inD ns).length = ns.length := List.length_map ..
    refine q_when (et_test (ev_lt (ev_var rfl) (ev_len (ev_var rfl) .vl))) (fun hb => g_ret hR (ev_ixV (d := .int (ns.getD k 0)) (ev_var rfl) (ev_var rfl) .vl (atI_nat ?_)) ⟨rfl, rfl⟩) (fun hb => g_ret hR ev_int ⟨?_, rfl⟩)
    · rw [decide_eq_true_eq, hl] at hb
      unfold inD
      rw [List.getElem?_map, in0 (by omega)]
      rfl
    · rw [decide_eq_false_iff_not, hl] at hb
      rw [out0 (by omega)]
  · refine q_when (et_test (ev_lt (ev_var rfl) (ev_lenK (ev_var rfl) hk))) (fun hb => g_ret hR (ev_ixK (ev_var rfl) (ev_var rfl) hk (in0 ?_)) ⟨rfl, rfl⟩) (fun hb => g_ret hR ev_int ⟨?_, rfl⟩)
    · rw [decide_eq_true_eq] at hb
      omega
    · rw [decide_eq_false_iff_not] at hb
      rw [out0 (by omega)]
end
theorem num_short {v : Int} (h0 : 0 ≤ v) (h1 : v < 10 ^ 9) : ((toString v : String) : Str).length ≤ 9 := by
  obtain ⟨n, rfl⟩ := Int.eq_ofNat_of_zero_le h0
  have e := (Nat.length_repr_le_iff (n := n) (by decide : 0 < 9)).mpr (by omega)
  rw [← String.length_toList, Nat.toList_repr] at e
  have t := congrArg List.length (TL.tl_num n)
  unfold TL.numL at t
  rw [List.length_map] at t
  have l : ((toString (n : Int) : String) : Str).length = (TL.tl (Str.ofString (toString (n : Int)))).length := by
    unfold Str.length
    first | rfl | exact (Array.length_toList).symm | simp [TL.tl]
  omega
def ct_law_thing (K : PySem.W.Frag) : Ct := Ct2 fun a b ka out => ∃ (z : Int) (k : Nat), a = .val (.int z) ∧ b = .val (.int (k : Int)) ∧ ka = [] ∧ out = fun o kk => ∃ d, o = .ret d ∧ pl 3 d = true ∧ kk = []
section
variable {P : Program} {w : World} {K : PySem.W.Frag} {mg : Str → Option Value} {base : Heap}
theorem ok_law_thing (T : Tx K mg) : Fn P w K mg base 4 (He.ga K "_law_thing") ["_law_cell_here", "_law_k"] (ct_law_thing K) := by
  obtain ⟨fd, F⟩ := T.d_law_thing
  refine fn_ok F sc_law_thing (fun _ _ _ _ _ _ us hl => match us, hl with | [_, _], _ => rfl) ct2_len (fun cdv A outer s H E hr => ⟨_, (pss_cons (ps_set (i := 2) sc_law_thing.nd rfl (by first | exact Or.inl rfl | exact Or.inr rfl) (pe_op op_mod (pe_callTy call_intU rfl T.n_int (by decide +kernel) (pa_cons (pe_op op_fdiv (pv 0) pe_int) pa_nil)) (pe_op op_pow pe_int pe_int)))
      (pss_cons (ps_set (i := 3) sc_law_thing.nd rfl (by first | exact Or.inl rfl | exact Or.inr rfl) (pe_lst (pa_cons (pv 2) (pa_cons (pe_op op_addU pe_str (pe_callTy call_strI rfl T.n_str (by decide +kernel) (pa_cons (pe_op op_mod (pv 2) (pe_op op_pow pe_int pe_int)) pa_nil))) (pa_cons (pe_tup (pa_cons (pv 2) (pa_cons pe_non pa_nil))) (pa_cons pe_non (pa_cons (pe_lst (pa_cons (pv 1) pa_nil)) (pa_cons (pe_op op_sub pe_int (pv 2)) pa_nil))))))))
      (pss_one (ps_ret (pe_ix ix_seq (pv 3) (pe_op op_mod (pe_op op_addU (pe_callB call_absU rfl T.n_abs (by decide +kernel) (pa_cons (pv 0) pa_nil)) (pv 1)) pe_int) fun _ _ => rfl))))), fun ws ka out B F0 Q hC hR hX => ?_⟩)
  obtain ⟨a, b, rfl, z, k, rfl, rfl, rfl, rfl⟩ := hC
  refine q_asg (w := .val (.int (z / 6 % 10 ^ 59))) (ev_modI (ev_int1 (ev_divI (ev_var rfl) ev_int ⟨by decide, by decide⟩)) (ev_powI ev_int ev_int ⟨by decide, by decide, by decide⟩) (by decide)) ?_
  generalize z / 6 % 10 ^ 59 = n
  have m0 : 0 ≤ n % 10 ^ 9 := Int.emod_nonneg _ (by decide)
  have m1 : n % 10 ^ 9 < 10 ^ 9 := Int.emod_lt_of_pos _ (by decide)
  have ns := num_short m0 m1
  have lg : (n % 10 ^ 9).natAbs.log2 < 1920 := by
    have h2 : (n % 10 ^ 9).natAbs < 2 ^ 30 := by omega
    by_cases h3 : (n % 10 ^ 9).natAbs = 0
    · rw [h3]; decide
    · have := (Nat.log2_lt h3).mpr h2
      omega
  refine q_asg (w := .val (.lst [.int n, .str ("x" ++ ((toString (n % 10 ^ 9) : String) : Str)), .tup [.int n, .non], .non, .lst [.int (k : Int)], .int (0 - n)])) (evn_lst (ds := [.int n, .str ("x" ++ ((toString (n % 10 ^ 9) : String) : Str)), .tup [.int n, .non], .non, .lst [.int (k : Int)], .int (0 - n)]) (ea_cons (ev_var rfl) (ea_cons (ev_addS ev_str (ev_strI (EvD.to (w' := .val (.int (n % 10 ^ 9))) (ev_modI (ev_var rfl) (ev_powI ev_int ev_int ⟨by decide, by decide, by decide⟩) (by decide)) rfl) lg) (by have : ("x" : Str).length = 1 := rfl; omega)) (ea_cons (ev_tup (ds := [.int n, .non]) (ea2 (ev_var rfl) ev_non) (show 2 ≤ 100000 by decide)) (ea3 ev_non (evn_lst (ds := [.int (k : Int)]) (ea1 (ev_var rfl)) (show 1 ≤ 100000 by decide)).lst (ev_subI ev_int (ev_var rfl)))))) (show 6 ≤ 100000 by decide)).lst ?_
  obtain ⟨j, hj, hj6⟩ : ∃ j : Nat, ((if z < 0 then -z else z) + (k : Int)) % 6 = (j : Int) ∧ j < 6 := by
    have h0 := Int.emod_nonneg ((if z < 0 then -z else z) + (k : Int)) (show (6 : Int) ≠ 0 by decide)
    have h1 := Int.emod_lt_of_pos ((if z < 0 then -z else z) + (k : Int)) (show (0 : Int) < 6 by decide)
    exact ⟨(((if z < 0 then -z else z) + (k : Int)) % 6).toNat, by omega, by omega⟩
  have ix := fun {ro : Ro} {ka : Cells} (h0 : ro[0]? = some (some (.val (.int z)))) (h1 : ro[1]? = some (some (.val (.int (k : Int))))) => EvD.to (K := K) (ka := ka) (ev_modI (ev_addI (ev_cb (ea1 (ev_var h0)) rc_abs) (ev_var h1)) ev_int (show (0 : Int) < 6 by decide)) (congrArg (fun i => W.val (.int i)) hj)
  rcases (by omega : j = 0 ∨ j = 1 ∨ j = 2 ∨ j = 3 ∨ j = 4 ∨ j = 5) with rfl | rfl | rfl | rfl | rfl | rfl
  all_goals exact g_ret hR (ev_ixV (ev_var rfl) (ix rfl rfl) .vl (atI_nat rfl)) ⟨_, rfl, rfl, rfl⟩
end
theorem EvR.lsR {K : PySem.W.Frag} {ro : Ro} {ka : Cells} {te : TE} {P P2 : W → Cells → Prop} (h : EvR K te ro ka P) (hP : ∀ w k, P w k → ∃ k', P2 w k' ∧ k'.Sublist k) : EvR K te ro ka P2 := fun B F0 ta sg H Q e q => h B F0 ta sg H Q e fun w k v H' p e' =>
  let ⟨k', p2, s⟩ := hP w k p
  q w k' v H' p2 (e'.less s)
def nms1 : List (Str × Str) := [("BadName", "name"), ("NameTaken", "name"), ("NoPost", "name"), ("NoLane", "name"), ("Clash", "name"), ("NoPattern", "name"), ("NoRun", "name"), ("SameLane", "name"), ("Brought", "name"), ("StillWanted", "name"), ("NotWanted", "name"), ("BadWalk", "place"), ("BadText", "place"), ("BadDeed", "place"), ("OneRing", "ring"), ("NotSure", "ring"), ("BadNumber", "value"), ("BadWord", "word"), ("BadLine", "line")]
def ex1 (K : PySem.W.Frag) (d : D) (p : Str × Str) : D := .exc (He.ga K p.1) [(p.2, d)]
def ct_law_named (K : PySem.W.Frag) : Ct := Ct1 fun a ka out => ∃ d, a = .val d ∧ ka = [] ∧ out = Rt (.lst [.lst (nms1.map (ex1 K d)), .lst (List.replicate 19 d)]) []
section
variable {P : Program} {w : World} {K : PySem.W.Frag} {mg : Str → Option Value} {base : Heap}
theorem ok_law_named (T : Tx K mg) (Z_BadDeed : Xn P w K mg base (He.ga K "BadDeed") "place") (Z_BadLine : Xn P w K mg base (He.ga K "BadLine") "line") (Z_BadName : Xn P w K mg base (He.ga K "BadName") "name") (Z_BadNumber : Xn P w K mg base (He.ga K "BadNumber") "value") (Z_BadText : Xn P w K mg base (He.ga K "BadText") "place") (Z_BadWalk : Xn P w K mg base (He.ga K "BadWalk") "place") (Z_BadWord : Xn P w K mg base (He.ga K "BadWord") "word") (Z_Brought : Xn P w K mg base (He.ga K "Brought") "name") (Z_Clash : Xn P w K mg base (He.ga K "Clash") "name") (Z_NameTaken : Xn P w K mg base (He.ga K "NameTaken") "name") (Z_NoLane : Xn P w K mg base (He.ga K "NoLane") "name") (Z_NoPattern : Xn P w K mg base (He.ga K "NoPattern") "name") (Z_NoPost : Xn P w K mg base (He.ga K "NoPost") "name") (Z_NoRun : Xn P w K mg base (He.ga K "NoRun") "name") (Z_NotSure : Xn P w K mg base (He.ga K "NotSure") "ring") (Z_NotWanted : Xn P w K mg base (He.ga K "NotWanted") "name") (Z_OneRing : Xn P w K mg base (He.ga K "OneRing") "ring") (Z_SameLane : Xn P w K mg base (He.ga K "SameLane") "name") (Z_StillWanted : Xn P w K mg base (He.ga K "StillWanted") "name") : Fn P w K mg base 4 (He.ga K "_law_named") ["_law_a"] (ct_law_named K) := by
  obtain ⟨fd, F⟩ := T.d_law_named
  refine fn_ok F sc_law_named (fun _ _ _ _ _ _ us hl => match us, hl with | [_], _ => rfl) ct1_len (fun cdv A outer s H E hr => ⟨_, (pss_cons (ps_set (i := 1) sc_law_named.nd rfl (by first | exact Or.inl rfl | exact Or.inr rfl) (pe_lst (pa_cons (pe_lst (pa_cons (pe_exV (pmk_oex Z_BadName.xc.oex Z_BadName.all.1 Z_BadName.all.2.1 Z_BadName.all.2.2.1 (hr.mono (by decide)) Z_BadName.all.2.2.2 .nil passes_no rfl T.g_BadName.1 (pa_cons (pv 0) pa_nil))) (pa_cons (pe_exV (pmk_oex Z_NameTaken.xc.oex Z_NameTaken.all.1 Z_NameTaken.all.2.1 Z_NameTaken.all.2.2.1 (hr.mono (by decide)) Z_NameTaken.all.2.2.2 .nil passes_no rfl T.g_NameTaken.1 (pa_cons (pv 0) pa_nil))) (pa_cons (pe_exV (pmk_oex Z_NoPost.xc.oex Z_NoPost.all.1 Z_NoPost.all.2.1 Z_NoPost.all.2.2.1 (hr.mono (by decide)) Z_NoPost.all.2.2.2 .nil passes_no rfl T.g_NoPost.1 (pa_cons (pv 0) pa_nil))) (pa_cons (pe_exV (pmk_oex Z_NoLane.xc.oex Z_NoLane.all.1 Z_NoLane.all.2.1 Z_NoLane.all.2.2.1 (hr.mono (by decide)) Z_NoLane.all.2.2.2 .nil passes_no rfl T.g_NoLane.1 (pa_cons (pv 0) pa_nil))) (pa_cons (pe_exV (pmk_oex Z_Clash.xc.oex Z_Clash.all.1 Z_Clash.all.2.1 Z_Clash.all.2.2.1 (hr.mono (by decide)) Z_Clash.all.2.2.2 .nil passes_no rfl T.g_Clash.1 (pa_cons (pv 0) pa_nil))) (pa_cons (pe_exV (pmk_oex Z_NoPattern.xc.oex Z_NoPattern.all.1 Z_NoPattern.all.2.1 Z_NoPattern.all.2.2.1 (hr.mono (by decide)) Z_NoPattern.all.2.2.2 .nil passes_no rfl T.g_NoPattern.1 (pa_cons (pv 0) pa_nil))) (pa_cons (pe_exV (pmk_oex Z_NoRun.xc.oex Z_NoRun.all.1 Z_NoRun.all.2.1 Z_NoRun.all.2.2.1 (hr.mono (by decide)) Z_NoRun.all.2.2.2 .nil passes_no rfl T.g_NoRun.1 (pa_cons (pv 0) pa_nil))) (pa_cons (pe_exV (pmk_oex Z_SameLane.xc.oex Z_SameLane.all.1 Z_SameLane.all.2.1 Z_SameLane.all.2.2.1 (hr.mono (by decide)) Z_SameLane.all.2.2.2 .nil passes_no rfl T.g_SameLane.1 (pa_cons (pv 0) pa_nil))) pa_nil))))))))) pa_nil)))
      (pss_cons (ps_expr (pe_bm PySem.F.plainAttrs_list PySem.F.slot_list_append PySem.F.type_list_append mt_append (pv 1) (pa_cons (pe_lst (pa_cons (pe_exV (pmk_oex Z_Brought.xc.oex Z_Brought.all.1 Z_Brought.all.2.1 Z_Brought.all.2.2.1 (hr.mono (by decide)) Z_Brought.all.2.2.2 .nil passes_no rfl T.g_Brought.1 (pa_cons (pv 0) pa_nil))) (pa_cons (pe_exV (pmk_oex Z_StillWanted.xc.oex Z_StillWanted.all.1 Z_StillWanted.all.2.1 Z_StillWanted.all.2.2.1 (hr.mono (by decide)) Z_StillWanted.all.2.2.2 .nil passes_no rfl T.g_StillWanted.1 (pa_cons (pv 0) pa_nil))) (pa_cons (pe_exV (pmk_oex Z_NotWanted.xc.oex Z_NotWanted.all.1 Z_NotWanted.all.2.1 Z_NotWanted.all.2.2.1 (hr.mono (by decide)) Z_NotWanted.all.2.2.2 .nil passes_no rfl T.g_NotWanted.1 (pa_cons (pv 0) pa_nil))) pa_nil)))) pa_nil)))
      (pss_cons (ps_set (i := 3) sc_law_named.nd rfl (by first | exact Or.inl rfl | exact Or.inr rfl) (pe_op op_addU (pe_lc (te := (tXfV K "name" (tVar 2))) (tt := tYes) (own := [("_law_one", 2)]) rfl sc_law_named.nd (pi_seq (pe_ix ix_seq (pv 1) pe_int fun _ _ => rfl)) (blk_ok ["_law_a", "_law_some", "_law_one", "_law_kept", "_law_places", "_law_rings"] (defScope s_law_named) rfl rfl (by decide +kernel)) (fun _ _ _ _ _ => (pg_name (i := 2) sc_law_named.nd rfl (by first | exact Or.inl rfl | exact Or.inr rfl))) (fun _ _ _ _ _ => pts_nil) (fun _ _ _ _ _ => (pe_xfV (pv 2)))) (pe_lc (te := (tXfV K "name" (tVar 2))) (tt := tYes) (own := [("_law_one", 2)]) rfl sc_law_named.nd (pi_seq (pe_ix ix_seq (pv 1) pe_int fun _ _ => rfl)) (blk_ok ["_law_a", "_law_some", "_law_one", "_law_kept", "_law_places", "_law_rings"] (defScope s_law_named) rfl rfl (by decide +kernel)) (fun _ _ _ _ _ => (pg_name (i := 2) sc_law_named.nd rfl (by first | exact Or.inl rfl | exact Or.inr rfl))) (fun _ _ _ _ _ => pts_nil) (fun _ _ _ _ _ => (pe_xfV (pv 2))))))
      (pss_cons (ps_set (i := 4) sc_law_named.nd rfl (by first | exact Or.inl rfl | exact Or.inr rfl) (pe_lst (pa_cons (pe_exV (pmk_oex Z_BadWalk.xc.oex Z_BadWalk.all.1 Z_BadWalk.all.2.1 Z_BadWalk.all.2.2.1 (hr.mono (by decide)) Z_BadWalk.all.2.2.2 .nil passes_no rfl T.g_BadWalk.1 (pa_cons (pv 0) pa_nil))) (pa_cons (pe_exV (pmk_oex Z_BadText.xc.oex Z_BadText.all.1 Z_BadText.all.2.1 Z_BadText.all.2.2.1 (hr.mono (by decide)) Z_BadText.all.2.2.2 .nil passes_no rfl T.g_BadText.1 (pa_cons (pv 0) pa_nil))) (pa_cons (pe_exV (pmk_oex Z_BadDeed.xc.oex Z_BadDeed.all.1 Z_BadDeed.all.2.1 Z_BadDeed.all.2.2.1 (hr.mono (by decide)) Z_BadDeed.all.2.2.2 .nil passes_no rfl T.g_BadDeed.1 (pa_cons (pv 0) pa_nil))) pa_nil)))))
      (pss_cons (ps_set (i := 3) sc_law_named.nd rfl (by first | exact Or.inl rfl | exact Or.inr rfl) (pe_op op_addU (pv 3) (pe_lc (te := (tXfV K "place" (tVar 2))) (tt := tYes) (own := [("_law_one", 2)]) rfl sc_law_named.nd (pi_seq (pv 4)) (blk_ok ["_law_a", "_law_some", "_law_one", "_law_kept", "_law_places", "_law_rings"] (defScope s_law_named) rfl rfl (by decide +kernel)) (fun _ _ _ _ _ => (pg_name (i := 2) sc_law_named.nd rfl (by first | exact Or.inl rfl | exact Or.inr rfl))) (fun _ _ _ _ _ => pts_nil) (fun _ _ _ _ _ => (pe_xfV (pv 2))))))
      (pss_cons (ps_set (i := 5) sc_law_named.nd rfl (by first | exact Or.inl rfl | exact Or.inr rfl) (pe_lst (pa_cons (pe_exV (pmk_oex Z_OneRing.xc.oex Z_OneRing.all.1 Z_OneRing.all.2.1 Z_OneRing.all.2.2.1 (hr.mono (by decide)) Z_OneRing.all.2.2.2 .nil passes_no rfl T.g_OneRing.1 (pa_cons (pv 0) pa_nil))) (pa_cons (pe_exV (pmk_oex Z_NotSure.xc.oex Z_NotSure.all.1 Z_NotSure.all.2.1 Z_NotSure.all.2.2.1 (hr.mono (by decide)) Z_NotSure.all.2.2.2 .nil passes_no rfl T.g_NotSure.1 (pa_cons (pv 0) pa_nil))) pa_nil))))
      (pss_cons (ps_set (i := 3) sc_law_named.nd rfl (by first | exact Or.inl rfl | exact Or.inr rfl) (pe_op op_addU (pe_op op_addU (pv 3) (pe_lc (te := (tXfV K "ring" (tVar 2))) (tt := tYes) (own := [("_law_one", 2)]) rfl sc_law_named.nd (pi_seq (pv 5)) (blk_ok ["_law_a", "_law_some", "_law_one", "_law_kept", "_law_places", "_law_rings"] (defScope s_law_named) rfl rfl (by decide +kernel)) (fun _ _ _ _ _ => (pg_name (i := 2) sc_law_named.nd rfl (by first | exact Or.inl rfl | exact Or.inr rfl))) (fun _ _ _ _ _ => pts_nil) (fun _ _ _ _ _ => (pe_xfV (pv 2))))) (pe_lst (pa_cons (pe_xfV (pe_exV (pmk_oex Z_BadNumber.xc.oex Z_BadNumber.all.1 Z_BadNumber.all.2.1 Z_BadNumber.all.2.2.1 (hr.mono (by decide)) Z_BadNumber.all.2.2.2 .nil passes_no rfl T.g_BadNumber.1 (pa_cons (pv 0) pa_nil)))) (pa_cons (pe_xfV (pe_exV (pmk_oex Z_BadWord.xc.oex Z_BadWord.all.1 Z_BadWord.all.2.1 Z_BadWord.all.2.2.1 (hr.mono (by decide)) Z_BadWord.all.2.2.2 .nil passes_no rfl T.g_BadWord.1 (pa_cons (pv 0) pa_nil)))) (pa_cons (pe_xfV (pe_exV (pmk_oex Z_BadLine.xc.oex Z_BadLine.all.1 Z_BadLine.all.2.1 Z_BadLine.all.2.2.1 (hr.mono (by decide)) Z_BadLine.all.2.2.2 .nil passes_no rfl T.g_BadLine.1 (pa_cons (pv 0) pa_nil)))) pa_nil))))))
      (pss_one (ps_ret (pe_lst (pa_cons (pe_op op_addU (pe_op op_addU (pe_op op_addU (pe_op op_addU (pe_ix ix_seq (pv 1) pe_int fun _ _ => rfl) (pe_ix ix_seq (pv 1) pe_int fun _ _ => rfl)) (pv 4)) (pv 5)) (pe_lst (pa_cons (pe_exV (pmk_oex Z_BadNumber.xc.oex Z_BadNumber.all.1 Z_BadNumber.all.2.1 Z_BadNumber.all.2.2.1 (hr.mono (by decide)) Z_BadNumber.all.2.2.2 .nil passes_no rfl T.g_BadNumber.1 (pa_cons (pv 0) pa_nil))) (pa_cons (pe_exV (pmk_oex Z_BadWord.xc.oex Z_BadWord.all.1 Z_BadWord.all.2.1 Z_BadWord.all.2.2.1 (hr.mono (by decide)) Z_BadWord.all.2.2.2 .nil passes_no rfl T.g_BadWord.1 (pa_cons (pv 0) pa_nil))) (pa_cons (pe_exV (pmk_oex Z_BadLine.xc.oex Z_BadLine.all.1 Z_BadLine.all.2.1 Z_BadLine.all.2.2.1 (hr.mono (by decide)) Z_BadLine.all.2.2.2 .nil passes_no rfl T.g_BadLine.1 (pa_cons (pv 0) pa_nil))) pa_nil))))) (pa_cons (pv 3) pa_nil)))))))))))), fun ws ka out B F0 Q hC hR hX => ?_⟩)
  obtain ⟨a, rfl, d, rfl, rfl, rfl⟩ := hC
  have fac : ∀ p ∈ nms1, XfC K (He.ga K p.1) ∧ findIn K (.ref (He.ga K p.1)) p.2 = some none := fun p hp => by
    simp only [nms1, List.mem_cons, List.not_mem_nil, or_false] at hp
    rcases hp with rfl | rfl | rfl | rfl | rfl | rfl | rfl | rfl | rfl | rfl | rfl | rfl | rfl | rfl | rfl | rfl | rfl | rfl | rfl
    · exact ⟨Z_BadName.xc.xf, Z_BadName.no⟩
    · exact ⟨Z_NameTaken.xc.xf, Z_NameTaken.no⟩
    · exact ⟨Z_NoPost.xc.xf, Z_NoPost.no⟩
    · exact ⟨Z_NoLane.xc.xf, Z_NoLane.no⟩
    · exact ⟨Z_Clash.xc.xf, Z_Clash.no⟩
    · exact ⟨Z_NoPattern.xc.xf, Z_NoPattern.no⟩
    · exact ⟨Z_NoRun.xc.xf, Z_NoRun.no⟩
    · exact ⟨Z_SameLane.xc.xf, Z_SameLane.no⟩
    · exact ⟨Z_Brought.xc.xf, Z_Brought.no⟩
    · exact ⟨Z_StillWanted.xc.xf, Z_StillWanted.no⟩
    · exact ⟨Z_NotWanted.xc.xf, Z_NotWanted.no⟩
    · exact ⟨Z_BadWalk.xc.xf, Z_BadWalk.no⟩
    · exact ⟨Z_BadText.xc.xf, Z_BadText.no⟩
    · exact ⟨Z_BadDeed.xc.xf, Z_BadDeed.no⟩
    · exact ⟨Z_OneRing.xc.xf, Z_OneRing.no⟩
    · exact ⟨Z_NotSure.xc.xf, Z_NotSure.no⟩
    · exact ⟨Z_BadNumber.xc.xf, Z_BadNumber.no⟩
    · exact ⟨Z_BadWord.xc.xf, Z_BadWord.no⟩
    · exact ⟨Z_BadLine.xc.xf, Z_BadLine.no⟩
  have fld : ∀ {ro : Ro} {k : Cells} {j : Nat} (f : Str) (p : Str × Str), p ∈ nms1 ∧ p.2 = f → ro[j]? = some (some (.val (ex1 K d p))) → EvD K (tXfV K f (tVar j)) ro k (.val d) k := fun {ro k j} f p hp h => by
    obtain ⟨hp, rfl⟩ := hp
    exact ev_xfV (C := He.ga K p.1) (gs := [(p.2, d)]) (ev_var h) (fac p hp).1 (fac p hp).2 (by simp)
  refine q_asgN (evn_lst (ds := [.lst (([("BadName", "name"), ("NameTaken", "name"), ("NoPost", "name"), ("NoLane", "name"), ("Clash", "name"), ("NoPattern", "name"), ("NoRun", "name"), ("SameLane", "name")] : List (Str × Str)).map (ex1 K d))]) (ea1 (EvN.lst (evn_lst (ds := ([("BadName", "name"), ("NameTaken", "name"), ("NoPost", "name"), ("NoLane", "name"), ("Clash", "name"), ("NoPattern", "name"), ("NoRun", "name"), ("SameLane", "name")] : List (Str × Str)).map (ex1 K d)) (ea_cons (ev_exc1 (ea1 (ev_var rfl)) Z_BadName.xc.oex Z_BadName.no) (ea_cons (ev_exc1 (ea1 (ev_var rfl)) Z_NameTaken.xc.oex Z_NameTaken.no) (ea_cons (ev_exc1 (ea1 (ev_var rfl)) Z_NoPost.xc.oex Z_NoPost.no) (ea_cons (ev_exc1 (ea1 (ev_var rfl)) Z_NoLane.xc.oex Z_NoLane.no) (ea_cons (ev_exc1 (ea1 (ev_var rfl)) Z_Clash.xc.oex Z_Clash.no) (ea_cons (ev_exc1 (ea1 (ev_var rfl)) Z_NoPattern.xc.oex Z_NoPattern.no) (ea_cons (ev_exc1 (ea1 (ev_var rfl)) Z_NoRun.xc.oex Z_NoRun.no) (ea_cons (ev_exc1 (ea1 (ev_var rfl)) Z_SameLane.xc.oex Z_SameLane.no) ea_nil)))))))) (show 8 ≤ 100000 by decide)))) (show 1 ≤ 100000 by decide)) (fun c => ?_)
  refine q_app (a := c) (j0 := 0) (j := 0) (d := .lst (([("Brought", "name"), ("StillWanted", "name"), ("NotWanted", "name")] : List (Str × Str)).map (ex1 K d))) (ds := [.lst (([("BadName", "name"), ("NameTaken", "name"), ("NoPost", "name"), ("NoLane", "name"), ("Clash", "name"), ("NoPattern", "name"), ("NoRun", "name"), ("SameLane", "name")] : List (Str × Str)).map (ex1 K d))]) (ev_var rfl) rfl (EvN.lst (evn_lst (ds := ([("Brought", "name"), ("StillWanted", "name"), ("NotWanted", "name")] : List (Str × Str)).map (ex1 K d)) (ea_cons (ev_exc1 (ea1 (ev_var rfl)) Z_Brought.xc.oex Z_Brought.no) (ea_cons (ev_exc1 (ea1 (ev_var rfl)) Z_StillWanted.xc.oex Z_StillWanted.no) (ea_cons (ev_exc1 (ea1 (ev_var rfl)) Z_NotWanted.xc.oex Z_NotWanted.no) ea_nil))) (show 3 ≤ 100000 by decide))) rfl (Nat.lt_of_lt_of_le (by decide : 1 < 2) (Nat.le_of_ble_eq_true rfl)) ?_
  refine q_asg (w := .val (.lst (List.replicate 11 d))) (EvD.to (ev_catL (EvD.to (w' := .val (.lst (List.replicate 8 d))) (EvN.lst (evn_map (xs := ([("BadName", "name"), ("NameTaken", "name"), ("NoPost", "name"), ("NoLane", "name"), ("Clash", "name"), ("NoPattern", "name"), ("NoRun", "name"), ("SameLane", "name")] : List (Str × Str))) (g := fun p => W.val (ex1 K d p)) (f := fun _ => d) (ei_map (ts := ([("BadName", "name"), ("NameTaken", "name"), ("NoPost", "name"), ("NoLane", "name"), ("Clash", "name"), ("NoPattern", "name"), ("NoRun", "name"), ("SameLane", "name")] : List (Str × Str))) (f := ex1 K d) (ev_ixV (ds := [.lst (([("BadName", "name"), ("NameTaken", "name"), ("NoPost", "name"), ("NoLane", "name"), ("Clash", "name"), ("NoPattern", "name"), ("NoRun", "name"), ("SameLane", "name")] : List (Str × Str)).map (ex1 K d)), .lst (([("Brought", "name"), ("StillWanted", "name"), ("NotWanted", "name")] : List (Str × Str)).map (ex1 K d))]) (d := .lst (([("BadName", "name"), ("NameTaken", "name"), ("NoPost", "name"), ("NoLane", "name"), ("Clash", "name"), ("NoPattern", "name"), ("NoRun", "name"), ("SameLane", "name")] : List (Str × Str)).map (ex1 K d))) (ev_var rfl) ev_int (.ce 0 rfl) (atI_nat (j := 0) rfl))) (by decide) (by decide) ⟨trivial, fun _ => trivial⟩ (fun p hp => fld "name" p (by
        simp only [List.mem_cons, List.not_mem_nil, or_false] at hp
        rcases hp with rfl | rfl | rfl | rfl | rfl | rfl | rfl | rfl <;> exact ⟨by simp [nms1], rfl⟩) rfl))) rfl) (EvD.to (w' := .val (.lst (List.replicate 3 d))) (EvN.lst (evn_map (xs := ([("Brought", "name"), ("StillWanted", "name"), ("NotWanted", "name")] : List (Str × Str))) (g := fun p => W.val (ex1 K d p)) (f := fun _ => d) (ei_map (ts := ([("Brought", "name"), ("StillWanted", "name"), ("NotWanted", "name")] : List (Str × Str))) (f := ex1 K d) (ev_ixV (ds := [.lst (([("BadName", "name"), ("NameTaken", "name"), ("NoPost", "name"), ("NoLane", "name"), ("Clash", "name"), ("NoPattern", "name"), ("NoRun", "name"), ("SameLane", "name")] : List (Str × Str)).map (ex1 K d)), .lst (([("Brought", "name"), ("StillWanted", "name"), ("NotWanted", "name")] : List (Str × Str)).map (ex1 K d))]) (d := .lst (([("Brought", "name"), ("StillWanted", "name"), ("NotWanted", "name")] : List (Str × Str)).map (ex1 K d))) (ev_var rfl) ev_int (.ce 0 rfl) (atI_nat (j := 1) rfl))) (by decide) (by decide) ⟨trivial, fun _ => trivial⟩ (fun p hp => fld "name" p (by
        simp only [List.mem_cons, List.not_mem_nil, or_false] at hp
        rcases hp with rfl | rfl | rfl <;> exact ⟨by simp [nms1], rfl⟩) rfl))) rfl) (Nat.le_of_ble_eq_true rfl)) rfl) ?_
  refine q_asg (w := .val (.lst (([("BadWalk", "place"), ("BadText", "place"), ("BadDeed", "place")] : List (Str × Str)).map (ex1 K d)))) (EvN.lst (evn_lst (ds := ([("BadWalk", "place"), ("BadText", "place"), ("BadDeed", "place")] : List (Str × Str)).map (ex1 K d)) (ea_cons (ev_exc1 (ea1 (ev_var rfl)) Z_BadWalk.xc.oex Z_BadWalk.no) (ea_cons (ev_exc1 (ea1 (ev_var rfl)) Z_BadText.xc.oex Z_BadText.no) (ea_cons (ev_exc1 (ea1 (ev_var rfl)) Z_BadDeed.xc.oex Z_BadDeed.no) ea_nil))) (show 3 ≤ 100000 by decide))) ?_
  refine q_asg (w := .val (.lst (List.replicate 14 d))) (EvD.to (ev_catL (ds := List.replicate 11 d) (ev_var rfl) (EvD.to (w' := .val (.lst (List.replicate 3 d))) (EvN.lst (evn_map (xs := ([("BadWalk", "place"), ("BadText", "place"), ("BadDeed", "place")] : List (Str × Str))) (g := fun p => W.val (ex1 K d p)) (f := fun _ => d) (ei_map (ts := ([("BadWalk", "place"), ("BadText", "place"), ("BadDeed", "place")] : List (Str × Str))) (f := ex1 K d) (ev_var rfl)) (by decide) (by decide) ⟨trivial, fun _ => trivial⟩ (fun p hp => fld "place" p (by
        simp only [List.mem_cons, List.not_mem_nil, or_false] at hp
        rcases hp with rfl | rfl | rfl <;> exact ⟨by simp [nms1], rfl⟩) rfl))) rfl) (Nat.le_of_ble_eq_true rfl)) rfl) ?_
  refine q_asg (w := .val (.lst (([("OneRing", "ring"), ("NotSure", "ring")] : List (Str × Str)).map (ex1 K d)))) (EvN.lst (evn_lst (ds := ([("OneRing", "ring"), ("NotSure", "ring")] : List (Str × Str)).map (ex1 K d)) (ea_cons (ev_exc1 (ea1 (ev_var rfl)) Z_OneRing.xc.oex Z_OneRing.no) (ea_cons (ev_exc1 (ea1 (ev_var rfl)) Z_NotSure.xc.oex Z_NotSure.no) ea_nil)) (show 2 ≤ 100000 by decide))) ?_
  refine q_asg (w := .val (.lst (List.replicate 19 d))) (EvD.to (ev_catL (ds := List.replicate 16 d) (EvD.to (ev_catL (ds := List.replicate 14 d) (ev_var rfl) (EvD.to (w' := .val (.lst (List.replicate 2 d))) (EvN.lst (evn_map (xs := ([("OneRing", "ring"), ("NotSure", "ring")] : List (Str × Str))) (g := fun p => W.val (ex1 K d p)) (f := fun _ => d) (ei_map (ts := ([("OneRing", "ring"), ("NotSure", "ring")] : List (Str × Str))) (f := ex1 K d) (ev_var rfl)) (by decide) (by decide) ⟨trivial, fun _ => trivial⟩ (fun p hp => fld "ring" p (by
        simp only [List.mem_cons, List.not_mem_nil, or_false] at hp
        rcases hp with rfl | rfl <;> exact ⟨by simp [nms1], rfl⟩) rfl))) rfl) (Nat.le_of_ble_eq_true rfl)) rfl) (EvN.lst (evn_lst (ds := [d, d, d]) (ea_cons (ev_xfV (C := He.ga K "BadNumber") (gs := [("value", d)]) (ev_exc1 (ea1 (ev_var rfl)) Z_BadNumber.xc.oex Z_BadNumber.no) Z_BadNumber.xc.xf Z_BadNumber.no (by simp)) (ea_cons (ev_xfV (C := He.ga K "BadWord") (gs := [("word", d)]) (ev_exc1 (ea1 (ev_var rfl)) Z_BadWord.xc.oex Z_BadWord.no) Z_BadWord.xc.xf Z_BadWord.no (by simp)) (ea_cons (ev_xfV (C := He.ga K "BadLine") (gs := [("line", d)]) (ev_exc1 (ea1 (ev_var rfl)) Z_BadLine.xc.oex Z_BadLine.no) Z_BadLine.xc.xf Z_BadLine.no (by simp)) ea_nil))) (show 3 ≤ 100000 by decide))) (Nat.le_of_ble_eq_true rfl)) rfl) ?_
  refine g_retE (Q := fun w k => w = .val (.lst [.lst (nms1.map (ex1 K d)), .lst (List.replicate 19 d)]) ∧ k = []) hR (EvR.lsR (EvD.toR (EvN.lst (evn_lst (ds := [.lst (nms1.map (ex1 K d)), .lst (List.replicate 19 d)]) (ea2 (EvD.to (w' := .val (.lst (nms1.map (ex1 K d)))) (ev_catL (ds := (([("BadName", "name"), ("NameTaken", "name"), ("NoPost", "name"), ("NoLane", "name"), ("Clash", "name"), ("NoPattern", "name"), ("NoRun", "name"), ("SameLane", "name"), ("Brought", "name"), ("StillWanted", "name"), ("NotWanted", "name"), ("BadWalk", "place"), ("BadText", "place"), ("BadDeed", "place"), ("OneRing", "ring"), ("NotSure", "ring")] : List (Str × Str)).map (ex1 K d))) (EvD.to (ev_catL (ds := (([("BadName", "name"), ("NameTaken", "name"), ("NoPost", "name"), ("NoLane", "name"), ("Clash", "name"), ("NoPattern", "name"), ("NoRun", "name"), ("SameLane", "name"), ("Brought", "name"), ("StillWanted", "name"), ("NotWanted", "name"), ("BadWalk", "place"), ("BadText", "place"), ("BadDeed", "place")] : List (Str × Str)).map (ex1 K d))) (EvD.to (ev_catL (ds := (([("BadName", "name"), ("NameTaken", "name"), ("NoPost", "name"), ("NoLane", "name"), ("Clash", "name"), ("NoPattern", "name"), ("NoRun", "name"), ("SameLane", "name"), ("Brought", "name"), ("StillWanted", "name"), ("NotWanted", "name")] : List (Str × Str)).map (ex1 K d))) (EvD.to (ev_catL (ds := (([("BadName", "name"), ("NameTaken", "name"), ("NoPost", "name"), ("NoLane", "name"), ("Clash", "name"), ("NoPattern", "name"), ("NoRun", "name"), ("SameLane", "name")] : List (Str × Str)).map (ex1 K d))) (ev_ixV (ds := [.lst (([("BadName", "name"), ("NameTaken", "name"), ("NoPost", "name"), ("NoLane", "name"), ("Clash", "name"), ("NoPattern", "name"), ("NoRun", "name"), ("SameLane", "name")] : List (Str × Str)).map (ex1 K d)), .lst (([("Brought", "name"), ("StillWanted", "name"), ("NotWanted", "name")] : List (Str × Str)).map (ex1 K d))]) (d := .lst (([("BadName", "name"), ("NameTaken", "name"), ("NoPost", "name"), ("NoLane", "name"), ("Clash", "name"), ("NoPattern", "name"), ("NoRun", "name"), ("SameLane", "name")] : List (Str × Str)).map (ex1 K d))) (ev_var rfl) ev_int (.ce 0 rfl) (atI_nat (j := 0) rfl)) (ev_ixV (ds := [.lst (([("BadName", "name"), ("NameTaken", "name"), ("NoPost", "name"), ("NoLane", "name"), ("Clash", "name"), ("NoPattern", "name"), ("NoRun", "name"), ("SameLane", "name")] : List (Str × Str)).map (ex1 K d)), .lst (([("Brought", "name"), ("StillWanted", "name"), ("NotWanted", "name")] : List (Str × Str)).map (ex1 K d))]) (d := .lst (([("Brought", "name"), ("StillWanted", "name"), ("NotWanted", "name")] : List (Str × Str)).map (ex1 K d))) (ev_var rfl) ev_int (.ce 0 rfl) (atI_nat (j := 1) rfl)) (Nat.le_of_ble_eq_true rfl)) rfl) (ev_var rfl) (Nat.le_of_ble_eq_true rfl)) rfl) (ev_var rfl) (Nat.le_of_ble_eq_true rfl)) rfl) (EvN.lst (evn_lst (ds := ([("BadNumber", "value"), ("BadWord", "word"), ("BadLine", "line")] : List (Str × Str)).map (ex1 K d)) (ea_cons (ev_exc1 (ea1 (ev_var rfl)) Z_BadNumber.xc.oex Z_BadNumber.no) (ea_cons (ev_exc1 (ea1 (ev_var rfl)) Z_BadWord.xc.oex Z_BadWord.no) (ea_cons (ev_exc1 (ea1 (ev_var rfl)) Z_BadLine.xc.oex Z_BadLine.no) ea_nil))) (show 3 ≤ 100000 by decide))) (Nat.le_of_ble_eq_true rfl)) rfl) (ev_var rfl)) (show 2 ≤ 100000 by decide)))) (fun w k h => ⟨[], ⟨h.1, rfl⟩, List.nil_sublist _⟩)) (fun w k h => ⟨_, h.1, rfl, h.2⟩)
end
def errN : List Str := ["BadName", "NameTaken", "NoPost", "NoLane", "Clash", "NoPattern", "NoRun", "SameLane", "Brought", "StillWanted", "NotWanted", "BadWalk", "BadText", "BadDeed", "OneRing", "NotSure", "BadNumber", "BadWord", "BadLine", "NoRound", "EmptyWalk", "EmptyWord", "NotWalk", "NotOnePart", "NothingWanted", "NothingBack"]
def ct_law_classes (K : PySem.W.Frag) : Ct := Ct1 fun e ka out => ∃ i x gs, errN[i]? = some x ∧ e = .val (.exc (He.ga K x) gs) ∧ ka = [] ∧ out = Rt (.lst ((List.range 26).map fun j => .bl (i == j))) []
section
variable {P : Program} {w : World} {K : PySem.W.Frag} {mg : Str → Option Value} {base : Heap}
theorem ok_law_classes (T : Tx K mg) : Fn P w K mg base 4 (He.ga K "_law_classes") ["_law_e"] (ct_law_classes K) := by
  obtain ⟨fd, F⟩ := T.d_law_classes
  refine fn_ok F sc_law_classes (fun _ _ _ _ _ _ us hl => match us, hl with | [_], _ => rfl) ct1_len (fun cdv A outer s H E hr => ⟨_, (pss_cons (ps_set (i := 1) sc_law_classes.nd rfl (by first | exact Or.inl rfl | exact Or.inr rfl) (pe_lst (pa_cons (pe_callB call_isiV rfl T.n_isinstance (by decide +kernel) (pa_cons (pv 0) (pa_cons (pe_glob (v := .ref (He.ga K "BadName")) rfl T.g_BadName.1 rfl) pa_nil))) (pa_cons (pe_callB call_isiV rfl T.n_isinstance (by decide +kernel) (pa_cons (pv 0) (pa_cons (pe_glob (v := .ref (He.ga K "NameTaken")) rfl T.g_NameTaken.1 rfl) pa_nil))) (pa_cons (pe_callB call_isiV rfl T.n_isinstance (by decide +kernel) (pa_cons (pv 0) (pa_cons (pe_glob (v := .ref (He.ga K "NoPost")) rfl T.g_NoPost.1 rfl) pa_nil))) (pa_cons (pe_callB call_isiV rfl T.n_isinstance (by decide +kernel) (pa_cons (pv 0) (pa_cons (pe_glob (v := .ref (He.ga K "NoLane")) rfl T.g_NoLane.1 rfl) pa_nil))) pa_nil))))))
      (pss_cons (ps_set (i := 1) sc_law_classes.nd rfl (by first | exact Or.inl rfl | exact Or.inr rfl) (pe_op op_addU (pv 1) (pe_lst (pa_cons (pe_callB call_isiV rfl T.n_isinstance (by decide +kernel) (pa_cons (pv 0) (pa_cons (pe_glob (v := .ref (He.ga K "Clash")) rfl T.g_Clash.1 rfl) pa_nil))) (pa_cons (pe_callB call_isiV rfl T.n_isinstance (by decide +kernel) (pa_cons (pv 0) (pa_cons (pe_glob (v := .ref (He.ga K "NoPattern")) rfl T.g_NoPattern.1 rfl) pa_nil))) (pa_cons (pe_callB call_isiV rfl T.n_isinstance (by decide +kernel) (pa_cons (pv 0) (pa_cons (pe_glob (v := .ref (He.ga K "NoRun")) rfl T.g_NoRun.1 rfl) pa_nil))) (pa_cons (pe_callB call_isiV rfl T.n_isinstance (by decide +kernel) (pa_cons (pv 0) (pa_cons (pe_glob (v := .ref (He.ga K "SameLane")) rfl T.g_SameLane.1 rfl) pa_nil))) pa_nil)))))))
      (pss_cons (ps_set (i := 1) sc_law_classes.nd rfl (by first | exact Or.inl rfl | exact Or.inr rfl) (pe_op op_addU (pv 1) (pe_lst (pa_cons (pe_callB call_isiV rfl T.n_isinstance (by decide +kernel) (pa_cons (pv 0) (pa_cons (pe_glob (v := .ref (He.ga K "Brought")) rfl T.g_Brought.1 rfl) pa_nil))) (pa_cons (pe_callB call_isiV rfl T.n_isinstance (by decide +kernel) (pa_cons (pv 0) (pa_cons (pe_glob (v := .ref (He.ga K "StillWanted")) rfl T.g_StillWanted.1 rfl) pa_nil))) (pa_cons (pe_callB call_isiV rfl T.n_isinstance (by decide +kernel) (pa_cons (pv 0) (pa_cons (pe_glob (v := .ref (He.ga K "NotWanted")) rfl T.g_NotWanted.1 rfl) pa_nil))) pa_nil))))))
      (pss_cons (ps_set (i := 1) sc_law_classes.nd rfl (by first | exact Or.inl rfl | exact Or.inr rfl) (pe_op op_addU (pv 1) (pe_lst (pa_cons (pe_callB call_isiV rfl T.n_isinstance (by decide +kernel) (pa_cons (pv 0) (pa_cons (pe_glob (v := .ref (He.ga K "BadWalk")) rfl T.g_BadWalk.1 rfl) pa_nil))) (pa_cons (pe_callB call_isiV rfl T.n_isinstance (by decide +kernel) (pa_cons (pv 0) (pa_cons (pe_glob (v := .ref (He.ga K "BadText")) rfl T.g_BadText.1 rfl) pa_nil))) (pa_cons (pe_callB call_isiV rfl T.n_isinstance (by decide +kernel) (pa_cons (pv 0) (pa_cons (pe_glob (v := .ref (He.ga K "BadDeed")) rfl T.g_BadDeed.1 rfl) pa_nil))) pa_nil))))))
      (pss_cons (ps_set (i := 1) sc_law_classes.nd rfl (by first | exact Or.inl rfl | exact Or.inr rfl) (pe_op op_addU (pv 1) (pe_lst (pa_cons (pe_callB call_isiV rfl T.n_isinstance (by decide +kernel) (pa_cons (pv 0) (pa_cons (pe_glob (v := .ref (He.ga K "OneRing")) rfl T.g_OneRing.1 rfl) pa_nil))) (pa_cons (pe_callB call_isiV rfl T.n_isinstance (by decide +kernel) (pa_cons (pv 0) (pa_cons (pe_glob (v := .ref (He.ga K "NotSure")) rfl T.g_NotSure.1 rfl) pa_nil))) (pa_cons (pe_callB call_isiV rfl T.n_isinstance (by decide +kernel) (pa_cons (pv 0) (pa_cons (pe_glob (v := .ref (He.ga K "BadNumber")) rfl T.g_BadNumber.1 rfl) pa_nil))) pa_nil))))))
      (pss_cons (ps_set (i := 1) sc_law_classes.nd rfl (by first | exact Or.inl rfl | exact Or.inr rfl) (pe_op op_addU (pv 1) (pe_lst (pa_cons (pe_callB call_isiV rfl T.n_isinstance (by decide +kernel) (pa_cons (pv 0) (pa_cons (pe_glob (v := .ref (He.ga K "BadWord")) rfl T.g_BadWord.1 rfl) pa_nil))) (pa_cons (pe_callB call_isiV rfl T.n_isinstance (by decide +kernel) (pa_cons (pv 0) (pa_cons (pe_glob (v := .ref (He.ga K "BadLine")) rfl T.g_BadLine.1 rfl) pa_nil))) (pa_cons (pe_callB call_isiV rfl T.n_isinstance (by decide +kernel) (pa_cons (pv 0) (pa_cons (pe_glob (v := .ref (He.ga K "NoRound")) rfl T.g_NoRound.1 rfl) pa_nil))) pa_nil))))))
      (pss_cons (ps_set (i := 1) sc_law_classes.nd rfl (by first | exact Or.inl rfl | exact Or.inr rfl) (pe_op op_addU (pv 1) (pe_lst (pa_cons (pe_callB call_isiV rfl T.n_isinstance (by decide +kernel) (pa_cons (pv 0) (pa_cons (pe_glob (v := .ref (He.ga K "EmptyWalk")) rfl T.g_EmptyWalk.1 rfl) pa_nil))) (pa_cons (pe_callB call_isiV rfl T.n_isinstance (by decide +kernel) (pa_cons (pv 0) (pa_cons (pe_glob (v := .ref (He.ga K "EmptyWord")) rfl T.g_EmptyWord.1 rfl) pa_nil))) (pa_cons (pe_callB call_isiV rfl T.n_isinstance (by decide +kernel) (pa_cons (pv 0) (pa_cons (pe_glob (v := .ref (He.ga K "NotWalk")) rfl T.g_NotWalk.1 rfl) pa_nil))) pa_nil))))))
      (pss_one (ps_ret (pe_op op_addU (pv 1) (pe_lst (pa_cons (pe_callB call_isiV rfl T.n_isinstance (by decide +kernel) (pa_cons (pv 0) (pa_cons (pe_glob (v := .ref (He.ga K "NotOnePart")) rfl T.g_NotOnePart.1 rfl) pa_nil))) (pa_cons (pe_callB call_isiV rfl T.n_isinstance (by decide +kernel) (pa_cons (pv 0) (pa_cons (pe_glob (v := .ref (He.ga K "NothingWanted")) rfl T.g_NothingWanted.1 rfl) pa_nil))) (pa_cons (pe_callB call_isiV rfl T.n_isinstance (by decide +kernel) (pa_cons (pv 0) (pa_cons (pe_glob (v := .ref (He.ga K "NothingBack")) rfl T.g_NothingBack.1 rfl) pa_nil))) pa_nil)))))))))))))), fun ws ka out B F0 Q hC hR hX => ?_⟩)
  obtain ⟨e, rfl, i, x, gs, hx, rfl, rfl, rfl⟩ := hC
  have E : ErrC K errN "ShowError" := T.errs
  refine q_asg (w := .val (.lst [.bl (i == 0), .bl (i == 1), .bl (i == 2), .bl (i == 3)])) (EvN.lst (evn_lst (ds := [.bl (i == 0), .bl (i == 1), .bl (i == 2), .bl (i == 3)]) (ea_cons (ev_isiV (C2 := He.ga K "BadName") (ev_var rfl) (E.kx i x hx) (E.kit i x 0 "BadName" hx rfl)) (ea_cons (ev_isiV (C2 := He.ga K "NameTaken") (ev_var rfl) (E.kx i x hx) (E.kit i x 1 "NameTaken" hx rfl)) (ea_cons (ev_isiV (C2 := He.ga K "NoPost") (ev_var rfl) (E.kx i x hx) (E.kit i x 2 "NoPost" hx rfl)) (ea_cons (ev_isiV (C2 := He.ga K "NoLane") (ev_var rfl) (E.kx i x hx) (E.kit i x 3 "NoLane" hx rfl)) ea_nil)))) (show 4 ≤ 100000 by decide))) ?_
  refine q_asg (w := .val (.lst [.bl (i == 0), .bl (i == 1), .bl (i == 2), .bl (i == 3), .bl (i == 4), .bl (i == 5), .bl (i == 6), .bl (i == 7)])) (EvD.to (ev_catL (ds := [.bl (i == 0), .bl (i == 1), .bl (i == 2), .bl (i == 3)]) (ev_var rfl) (EvN.lst (evn_lst (ds := [.bl (i == 4), .bl (i == 5), .bl (i == 6), .bl (i == 7)]) (ea_cons (ev_isiV (C2 := He.ga K "Clash") (ev_var rfl) (E.kx i x hx) (E.kit i x 4 "Clash" hx rfl)) (ea_cons (ev_isiV (C2 := He.ga K "NoPattern") (ev_var rfl) (E.kx i x hx) (E.kit i x 5 "NoPattern" hx rfl)) (ea_cons (ev_isiV (C2 := He.ga K "NoRun") (ev_var rfl) (E.kx i x hx) (E.kit i x 6 "NoRun" hx rfl)) (ea_cons (ev_isiV (C2 := He.ga K "SameLane") (ev_var rfl) (E.kx i x hx) (E.kit i x 7 "SameLane" hx rfl)) ea_nil)))) (show 4 ≤ 100000 by decide))) (Nat.le_of_ble_eq_true rfl)) rfl) ?_
  refine q_asg (w := .val (.lst [.bl (i == 0), .bl (i == 1), .bl (i == 2), .bl (i == 3), .bl (i == 4), .bl (i == 5), .bl (i == 6), .bl (i == 7), .bl (i == 8), .bl (i == 9), .bl (i == 10)])) (EvD.to (ev_catL (ds := [.bl (i == 0), .bl (i == 1), .bl (i == 2), .bl (i == 3), .bl (i == 4), .bl (i == 5), .bl (i == 6), .bl (i == 7)]) (ev_var rfl) (EvN.lst (evn_lst (ds := [.bl (i == 8), .bl (i == 9), .bl (i == 10)]) (ea_cons (ev_isiV (C2 := He.ga K "Brought") (ev_var rfl) (E.kx i x hx) (E.kit i x 8 "Brought" hx rfl)) (ea_cons (ev_isiV (C2 := He.ga K "StillWanted") (ev_var rfl) (E.kx i x hx) (E.kit i x 9 "StillWanted" hx rfl)) (ea_cons (ev_isiV (C2 := He.ga K "NotWanted") (ev_var rfl) (E.kx i x hx) (E.kit i x 10 "NotWanted" hx rfl)) ea_nil))) (show 3 ≤ 100000 by decide))) (Nat.le_of_ble_eq_true rfl)) rfl) ?_
  refine q_asg (w := .val (.lst [.bl (i == 0), .bl (i == 1), .bl (i == 2), .bl (i == 3), .bl (i == 4), .bl (i == 5), .bl (i == 6), .bl (i == 7), .bl (i == 8), .bl (i == 9), .bl (i == 10), .bl (i == 11), .bl (i == 12), .bl (i == 13)])) (EvD.to (ev_catL (ds := [.bl (i == 0), .bl (i == 1), .bl (i == 2), .bl (i == 3), .bl (i == 4), .bl (i == 5), .bl (i == 6), .bl (i == 7), .bl (i == 8), .bl (i == 9), .bl (i == 10)]) (ev_var rfl) (EvN.lst (evn_lst (ds := [.bl (i == 11), .bl (i == 12), .bl (i == 13)]) (ea_cons (ev_isiV (C2 := He.ga K "BadWalk") (ev_var rfl) (E.kx i x hx) (E.kit i x 11 "BadWalk" hx rfl)) (ea_cons (ev_isiV (C2 := He.ga K "BadText") (ev_var rfl) (E.kx i x hx) (E.kit i x 12 "BadText" hx rfl)) (ea_cons (ev_isiV (C2 := He.ga K "BadDeed") (ev_var rfl) (E.kx i x hx) (E.kit i x 13 "BadDeed" hx rfl)) ea_nil))) (show 3 ≤ 100000 by decide))) (Nat.le_of_ble_eq_true rfl)) rfl) ?_
  refine q_asg (w := .val (.lst [.bl (i == 0), .bl (i == 1), .bl (i == 2), .bl (i == 3), .bl (i == 4), .bl (i == 5), .bl (i == 6), .bl (i == 7), .bl (i == 8), .bl (i == 9), .bl (i == 10), .bl (i == 11), .bl (i == 12), .bl (i == 13), .bl (i == 14), .bl (i == 15), .bl (i == 16)])) (EvD.to (ev_catL (ds := [.bl (i == 0), .bl (i == 1), .bl (i == 2), .bl (i == 3), .bl (i == 4), .bl (i == 5), .bl (i == 6), .bl (i == 7), .bl (i == 8), .bl (i == 9), .bl (i == 10), .bl (i == 11), .bl (i == 12), .bl (i == 13)]) (ev_var rfl) (EvN.lst (evn_lst (ds := [.bl (i == 14), .bl (i == 15), .bl (i == 16)]) (ea_cons (ev_isiV (C2 := He.ga K "OneRing") (ev_var rfl) (E.kx i x hx) (E.kit i x 14 "OneRing" hx rfl)) (ea_cons (ev_isiV (C2 := He.ga K "NotSure") (ev_var rfl) (E.kx i x hx) (E.kit i x 15 "NotSure" hx rfl)) (ea_cons (ev_isiV (C2 := He.ga K "BadNumber") (ev_var rfl) (E.kx i x hx) (E.kit i x 16 "BadNumber" hx rfl)) ea_nil))) (show 3 ≤ 100000 by decide))) (Nat.le_of_ble_eq_true rfl)) rfl) ?_
  refine q_asg (w := .val (.lst [.bl (i == 0), .bl (i == 1), .bl (i == 2), .bl (i == 3), .bl (i == 4), .bl (i == 5), .bl (i == 6), .bl (i == 7), .bl (i == 8), .bl (i == 9), .bl (i == 10), .bl (i == 11), .bl (i == 12), .bl (i == 13), .bl (i == 14), .bl (i == 15), .bl (i == 16), .bl (i == 17), .bl (i == 18), .bl (i == 19)])) (EvD.to (ev_catL (ds := [.bl (i == 0), .bl (i == 1), .bl (i == 2), .bl (i == 3), .bl (i == 4), .bl (i == 5), .bl (i == 6), .bl (i == 7), .bl (i == 8), .bl (i == 9), .bl (i == 10), .bl (i == 11), .bl (i == 12), .bl (i == 13), .bl (i == 14), .bl (i == 15), .bl (i == 16)]) (ev_var rfl) (EvN.lst (evn_lst (ds := [.bl (i == 17), .bl (i == 18), .bl (i == 19)]) (ea_cons (ev_isiV (C2 := He.ga K "BadWord") (ev_var rfl) (E.kx i x hx) (E.kit i x 17 "BadWord" hx rfl)) (ea_cons (ev_isiV (C2 := He.ga K "BadLine") (ev_var rfl) (E.kx i x hx) (E.kit i x 18 "BadLine" hx rfl)) (ea_cons (ev_isiV (C2 := He.ga K "NoRound") (ev_var rfl) (E.kx i x hx) (E.kit i x 19 "NoRound" hx rfl)) ea_nil))) (show 3 ≤ 100000 by decide))) (Nat.le_of_ble_eq_true rfl)) rfl) ?_
  refine q_asg (w := .val (.lst [.bl (i == 0), .bl (i == 1), .bl (i == 2), .bl (i == 3), .bl (i == 4), .bl (i == 5), .bl (i == 6), .bl (i == 7), .bl (i == 8), .bl (i == 9), .bl (i == 10), .bl (i == 11), .bl (i == 12), .bl (i == 13), .bl (i == 14), .bl (i == 15), .bl (i == 16), .bl (i == 17), .bl (i == 18), .bl (i == 19), .bl (i == 20), .bl (i == 21), .bl (i == 22)])) (EvD.to (ev_catL (ds := [.bl (i == 0), .bl (i == 1), .bl (i == 2), .bl (i == 3), .bl (i == 4), .bl (i == 5), .bl (i == 6), .bl (i == 7), .bl (i == 8), .bl (i == 9), .bl (i == 10), .bl (i == 11), .bl (i == 12), .bl (i == 13), .bl (i == 14), .bl (i == 15), .bl (i == 16), .bl (i == 17), .bl (i == 18), .bl (i == 19)]) (ev_var rfl) (EvN.lst (evn_lst (ds := [.bl (i == 20), .bl (i == 21), .bl (i == 22)]) (ea_cons (ev_isiV (C2 := He.ga K "EmptyWalk") (ev_var rfl) (E.kx i x hx) (E.kit i x 20 "EmptyWalk" hx rfl)) (ea_cons (ev_isiV (C2 := He.ga K "EmptyWord") (ev_var rfl) (E.kx i x hx) (E.kit i x 21 "EmptyWord" hx rfl)) (ea_cons (ev_isiV (C2 := He.ga K "NotWalk") (ev_var rfl) (E.kx i x hx) (E.kit i x 22 "NotWalk" hx rfl)) ea_nil))) (show 3 ≤ 100000 by decide))) (Nat.le_of_ble_eq_true rfl)) rfl) ?_
  exact g_ret hR (EvD.to (w' := .val (.lst ((List.range 26).map fun j => .bl (i == j)))) (ev_catL (ds := [.bl (i == 0), .bl (i == 1), .bl (i == 2), .bl (i == 3), .bl (i == 4), .bl (i == 5), .bl (i == 6), .bl (i == 7), .bl (i == 8), .bl (i == 9), .bl (i == 10), .bl (i == 11), .bl (i == 12), .bl (i == 13), .bl (i == 14), .bl (i == 15), .bl (i == 16), .bl (i == 17), .bl (i == 18), .bl (i == 19), .bl (i == 20), .bl (i == 21), .bl (i == 22)]) (ev_var rfl) (EvN.lst (evn_lst (ds := [.bl (i == 23), .bl (i == 24), .bl (i == 25)]) (ea_cons (ev_isiV (C2 := He.ga K "NotOnePart") (ev_var rfl) (E.kx i x hx) (E.kit i x 23 "NotOnePart" hx rfl)) (ea_cons (ev_isiV (C2 := He.ga K "NothingWanted") (ev_var rfl) (E.kx i x hx) (E.kit i x 24 "NothingWanted" hx rfl)) (ea_cons (ev_isiV (C2 := He.ga K "NothingBack") (ev_var rfl) (E.kx i x hx) (E.kit i x 25 "NothingBack" hx rfl)) ea_nil))) (show 3 ≤ 100000 by decide))) (Nat.le_of_ble_eq_true rfl)) rfl) ⟨rfl, rfl⟩
end
def ct_law_alone (K : PySem.W.Frag) : Ct := Ct2 fun e b ka out => ∃ (i : Nat) (x : Str) (gs : List (Str × D)), errN[i]? = some x ∧ e = .val (.exc (He.ga K x) gs) ∧ b = .val (.int (i : Int)) ∧ ka = [] ∧ out = Rt (.bl true) []
section
variable {P : Program} {w : World} {K : PySem.W.Frag} {mg : Str → Option Value} {base : Heap}
theorem ok_law_alone (T : Tx K mg) (F_law_classes : Fn P w K mg base 4 (He.ga K "_law_classes") ["_law_e"] (ct_law_classes K)) : Fn P w K mg base 6 (He.ga K "_law_alone") ["_law_e", "_law_place"] (ct_law_alone K) := by
  obtain ⟨fd, F⟩ := T.d_law_alone
  refine fn_ok F sc_law_alone (fun _ _ _ _ _ _ us hl => match us, hl with | [_, _], _ => rfl) ct2_len (fun cdv A outer s H E hr => ⟨_, (pss_cons (ps_setLc (i := 3) (te := (tOp (rEqP K false) (tVar 2) (tVar 1))) (tt := tYes) (own := [("_law_k", 2)]) rfl sc_law_alone.nd rfl rfl rfl (pi_range1 rfl T.n_range (pa_cons pe_int pa_nil)) (blk_ok ["_law_e", "_law_place", "_law_k", "_law_due"] (defScope s_law_alone) rfl rfl (by decide +kernel)) (fun _ _ _ _ _ => (pg_name (i := 2) sc_law_alone.nd rfl (by first | exact Or.inl rfl | exact Or.inr rfl))) (fun _ _ _ _ _ => pts_nil) (fun _ _ _ _ _ => (pe_cmpR (op_eqP (by have := (hr).units; exact this)) (pv 2) (pv 1) (nomark _))))
      (pss_one (ps_ret (pe_and (pe_cmpR (op_eqP (by have := (hr).units; exact this)) (pe_call (F_law_classes.up (by decide)).ok hr rfl T.g_law_classes.1 T.g_law_classes.2 (F_law_classes.up (by decide)).bn .nil (pass_own rfl rfl rfl rfl) (pa_cons (pv 0) pa_nil)) (pv 3) (nomark _)) (pe_and (pe_callB call_isiV rfl T.n_isinstance (by decide +kernel) (pa_cons (pv 0) (pa_cons (pe_glob (v := .ref (He.ga K "ShowError")) rfl T.g_ShowError.1 rfl) pa_nil))) (pe_one (pe_callB call_isiV rfl T.n_isinstance (by decide +kernel) (pa_cons (pv 0) (pa_cons (pe_bltn (v := .ty "ValueError") rfl T.n_ValueError (by decide +kernel) rfl) pa_nil))))))))), fun ws ka out B F0 Q hC hR hX => ?_⟩)
  obtain ⟨e, b, rfl, i, x, gs, hx, rfl, rfl, rfl, rfl⟩ := hC
  have E : ErrC K errN "ShowError" := T.errs
  refine q_asg (w := .val (.lst ((List.range 26).map fun j => .bl (i == j)))) (EvD.to (EvN.lst (evn_map (xs := List.range 26) (g := fun j : Nat => W.val (.int (j : Int))) (f := fun j : Nat => .bl ((j : Int) == (i : Int))) (ei_range1 (ea1 ev_int) (by decide) (by decide)) (by decide) (by decide) ⟨trivial, fun _ => trivial⟩ (fun j hj => ev_eqI (ev_var rfl) (ev_var rfl)))) (congrArg (fun z => W.val (.lst z)) (List.map_congr_left fun j _ => congrArg D.bl (by rw [Bool.eq_iff_iff, beq_iff_eq, beq_iff_eq]; omega)))) ?_
  have pd : pl 61 (.lst ((List.range 26).map fun j => .bl (i == j))) = true := List.all_eq_true.mpr fun d hd => by
    obtain ⟨j, _, rfl⟩ := List.mem_map.mp hd
    rfl
  exact g_ret hR (ev_andV1 ((ev_eq (d := .lst ((List.range 26).map fun j => .bl (i == j))) (e := .lst ((List.range 26).map fun j => .bl (i == j))) (ev_callP (ea1 (ev_var rfl)) ⟨_, rfl, i, x, gs, hx, rfl, rfl, rfl⟩) (ev_var rfl) .v .v pd pd).to (by rw [eqD_refl 61 _ pd])) (ev_andV1 (ev_isiV (C2 := He.ga K "ShowError") (ev_var rfl) (E.kx i x hx) (E.base i x hx)) (ev_isiT (n := "ValueError") (ev_var rfl) (E.kx i x hx) (E.ve i x hx)))) ⟨rfl, rfl⟩
end
def plN : List Str := ["EmptyWalk", "EmptyWord", "NotWalk", "NotOnePart", "NothingWanted", "NothingBack"]
theorem pl_up : ∀ (n m : Nat) (d : D), n ≤ m → pl n d = true → pl m d = true
  | 0, m, d, _, h => by cases d <;> first | (cases h; done) | (cases m <;> rfl)
  | n + 1, m, d, hm, h => by
    obtain ⟨k, rfl⟩ : ∃ k, m = k + 1 := ⟨m - 1, by omega⟩
    cases d with
    | lst ds => exact List.all_eq_true.mpr fun x hx => pl_up n k x (by omega) (List.all_eq_true.mp (show ds.all (pl n) = true from h) x hx)
    | tup ds => exact List.all_eq_true.mpr fun x hx => pl_up n k x (by omega) (List.all_eq_true.mp (show ds.all (pl n) = true from h) x hx)
    | _ => first | rfl | (cases h; done)
def ct_law (K : PySem.W.Frag) : Ct := Ct1 fun a ka out => ∃ ns, Scr K a ns ∧ ka = [] ∧ out = Rt (.bl true) []
section
variable {P : Program} {w : World} {K : PySem.W.Frag} {mg : Str → Option Value} {base : Heap}
theorem ok_law {fd : FuncData} (T : Tx K mg) (F_law_cell : Fn P w K mg base 4 (He.ga K "_law_cell") ["_law_script", "_law_k"] (ct_law_cell K)) (F_law_thing : Fn P w K mg base 4 (He.ga K "_law_thing") ["_law_cell_here", "_law_k"] (ct_law_thing K)) (F_law_named : Fn P w K mg base 4 (He.ga K "_law_named") ["_law_a"] (ct_law_named K)) (F_law_alone : Fn P w K mg base 6 (He.ga K "_law_alone") ["_law_e", "_law_place"] (ct_law_alone K)) (Z_NoRound : X3 P w K mg base (He.ga K "NoRound") "first" "second" "side") (F : FunD K "law" "law" (defArgs s_law) (defBody s_law) (defScope s_law) [] [] (He.ga K "law") fd) : FnOk P w K mg base (L2.CX P w) 8 (He.ga K "law") fd ["_law_script"] (spC K (ct_law K)) := by
  refine fn_okF F sc_law (fun _ _ _ _ _ _ us hl => match us, hl with | [_], _ => rfl) ct1_len (fun cdv A outer s H E hr => ⟨_, (pss_cons (ps_set (i := 1) sc_law.nd rfl (by first | exact Or.inl rfl | exact Or.inr rfl) (pe_call (F_law_thing.up (by decide)).ok hr rfl T.g_law_thing.1 T.g_law_thing.2 (F_law_thing.up (by decide)).bn .nil (pass_own rfl rfl rfl rfl) (pa_cons (pe_call (F_law_cell.up (by decide)).ok hr rfl T.g_law_cell.1 T.g_law_cell.2 (F_law_cell.up (by decide)).bn .nil (pass_own rfl rfl rfl rfl) (pa_cons (pv 0) (pa_cons pe_int pa_nil))) (pa_cons pe_int pa_nil))))
      (pss_cons (ps_set (i := 2) sc_law.nd rfl (by first | exact Or.inl rfl | exact Or.inr rfl) (pe_call (F_law_thing.up (by decide)).ok hr rfl T.g_law_thing.1 T.g_law_thing.2 (F_law_thing.up (by decide)).bn .nil (pass_own rfl rfl rfl rfl) (pa_cons (pe_call (F_law_cell.up (by decide)).ok hr rfl T.g_law_cell.1 T.g_law_cell.2 (F_law_cell.up (by decide)).bn .nil (pass_own rfl rfl rfl rfl) (pa_cons (pv 0) (pa_cons pe_int pa_nil))) (pa_cons pe_int pa_nil))))
      (pss_cons (ps_set (i := 3) sc_law.nd rfl (by first | exact Or.inl rfl | exact Or.inr rfl) (pe_call (F_law_thing.up (by decide)).ok hr rfl T.g_law_thing.1 T.g_law_thing.2 (F_law_thing.up (by decide)).bn .nil (pass_own rfl rfl rfl rfl) (pa_cons (pe_call (F_law_cell.up (by decide)).ok hr rfl T.g_law_cell.1 T.g_law_cell.2 (F_law_cell.up (by decide)).bn .nil (pass_own rfl rfl rfl rfl) (pa_cons (pv 0) (pa_cons pe_int pa_nil))) (pa_cons pe_int pa_nil))))
      (pss_cons (ps_asg (pe_call (F_law_named.up (by decide)).ok hr rfl T.g_law_named.1 T.g_law_named.2 (F_law_named.up (by decide)).bn .nil (pass_own rfl rfl rfl rfl) (pa_cons (pv 1) pa_nil)) (pg_lst rfl (pgs_cons (pg_name (i := 4) sc_law.nd rfl (by first | exact Or.inl rfl | exact Or.inr rfl)) (pgs_cons (pg_name (i := 5) sc_law.nd rfl (by first | exact Or.inl rfl | exact Or.inr rfl)) pgs_nil))))
      (pss_cons (ps_if (pt_cmpR (op_neP (by have := (hr).units; exact this)) (pv 5) (pe_lc (te := (tVar 1)) (tt := tYes) (own := [("_law_one", 6)]) rfl sc_law.nd (pi_seq (pv 5)) (blk_ok ["_law_script", "_law_a", "_law_b", "_law_c", "_law_errors", "_law_kept", "_law_one", "_law_k", "_law_three", "_law_plain"] (defScope s_law) rfl rfl (by decide +kernel)) (fun _ _ _ _ _ => (pg_name (i := 6) sc_law.nd rfl (by first | exact Or.inl rfl | exact Or.inr rfl))) (fun _ _ _ _ _ => pts_nil) (fun _ _ _ _ _ => (pv 1))) (nomark _))
      (pss_one (ps_ret pe_bl))
      pss_nil)
      (pss_cons (ps_for (passes_of rfl) rfl (pi_enum rfl T.n_enumerate (pa_cons (pv 4) pa_nil)) (pg_tup rfl (pgs_cons (pg_name (i := 7) sc_law.nd rfl (by first | exact Or.inl rfl | exact Or.inr rfl)) (pgs_cons (pg_name (i := 6) sc_law.nd rfl (by first | exact Or.inl rfl | exact Or.inr rfl)) pgs_nil))) (pss_one (ps_if (pt_not (pt_val (pe_call (F_law_alone.up (by decide)).ok hr rfl T.g_law_alone.1 T.g_law_alone.2 (F_law_alone.up (by decide)).bn .nil (pass_own rfl rfl rfl rfl) (pa_cons (pv 6) (pa_cons (pv 7) pa_nil)))))
      (pss_one (ps_ret pe_bl))
      pss_nil)))
      (pss_cons (ps_set (i := 8) sc_law.nd rfl (by first | exact Or.inl rfl | exact Or.inr rfl) (pe_exV (pmk_oex Z_NoRound.xc.oex Z_NoRound.all.1 Z_NoRound.all.2.1 Z_NoRound.all.2.2.1 (hr.mono (by decide)) Z_NoRound.all.2.2.2 .nil passes_no rfl T.g_NoRound.1 (pa_cons (pv 1) (pa_cons (pv 2) (pa_cons (pv 3) pa_nil))))))
      (pss_cons (ps_if (PW.pt (pw_or (pt_cmpR (op_neP (by have := (hr).units; exact this)) (pe_lst (pa_cons (pe_xfV (pv 8)) (pa_cons (pe_xfV (pv 8)) (pa_cons (pe_xfV (pv 8)) pa_nil)))) (pe_lst (pa_cons (pv 1) (pa_cons (pv 2) (pa_cons (pv 3) pa_nil)))) (nomark _)) (pw_or1 (pt_not (pt_val (pe_call (F_law_alone.up (by decide)).ok hr rfl T.g_law_alone.1 T.g_law_alone.2 (F_law_alone.up (by decide)).bn .nil (pass_own rfl rfl rfl rfl) (pa_cons (pv 8) (pa_cons pe_int pa_nil))))))))
      (pss_one (ps_ret pe_bl))
      pss_nil)
      (pss_cons (ps_set (i := 9) sc_law.nd rfl (by first | exact Or.inl rfl | exact Or.inr rfl) (pe_lst (pa_cons (pe_exV (pmk_zero PySem.F.excBase_ValueError T.x0_EmptyWalk.1 T.g_EmptyWalk.1 T.x0_EmptyWalk.2.1 (raises_own T.x0_EmptyWalk.2.2.1 T.x0_EmptyWalk.2.2.2) rfl)) (pa_cons (pe_exV (pmk_zero PySem.F.excBase_ValueError T.x0_EmptyWord.1 T.g_EmptyWord.1 T.x0_EmptyWord.2.1 (raises_own T.x0_EmptyWord.2.2.1 T.x0_EmptyWord.2.2.2) rfl)) (pa_cons (pe_exV (pmk_zero PySem.F.excBase_ValueError T.x0_NotWalk.1 T.g_NotWalk.1 T.x0_NotWalk.2.1 (raises_own T.x0_NotWalk.2.2.1 T.x0_NotWalk.2.2.2) rfl)) (pa_cons (pe_exV (pmk_zero PySem.F.excBase_ValueError T.x0_NotOnePart.1 T.g_NotOnePart.1 T.x0_NotOnePart.2.1 (raises_own T.x0_NotOnePart.2.2.1 T.x0_NotOnePart.2.2.2) rfl)) (pa_cons (pe_exV (pmk_zero PySem.F.excBase_ValueError T.x0_NothingWanted.1 T.g_NothingWanted.1 T.x0_NothingWanted.2.1 (raises_own T.x0_NothingWanted.2.2.1 T.x0_NothingWanted.2.2.2) rfl)) (pa_cons (pe_exV (pmk_zero PySem.F.excBase_ValueError T.x0_NothingBack.1 T.g_NothingBack.1 T.x0_NothingBack.2.1 (raises_own T.x0_NothingBack.2.2.1 T.x0_NothingBack.2.2.2) rfl)) pa_nil))))))))
      (pss_one (ps_ret (pe_cmpR (op_eqP (by have := (hr).units; exact this)) (pe_lc (te := (tVar 7)) (tt := (tNot (tB (tCall (spC K (ct_law_alone K)) [] (fun _ _ _ => False) (tCons (tVar 6) (tCons (tOp (rAddU K) (tC (.int 20)) (tVar 7)) tNil)))))) (g := (gTup _ 2 (gCons (gName 7) (gCons (gName 6) gNil)))) (own := [("_law_k", 7), ("_law_one", 6)]) rfl sc_law.nd (pi_enum rfl T.n_enumerate (pa_cons (pv 9) pa_nil)) (blk_ok ["_law_script", "_law_a", "_law_b", "_law_c", "_law_errors", "_law_kept", "_law_one", "_law_k", "_law_three", "_law_plain"] (defScope s_law) rfl rfl (by decide +kernel)) (by intro _ _ _ _ _; exact (pg_tup rfl (pgs_cons (pg_name (i := 7) sc_law.nd rfl (by first | exact Or.inl rfl | exact Or.inr rfl)) (pgs_cons (pg_name (i := 6) sc_law.nd rfl (by first | exact Or.inl rfl | exact Or.inr rfl)) pgs_nil)))) (fun _ _ _ _ _ => (pts_one (pt_not (pt_val (pe_call (F_law_alone.up (by decide)).ok hr rfl T.g_law_alone.1 T.g_law_alone.2 (F_law_alone.up (by decide)).bn .nil passes_no (pa_cons (pv 6) (pa_cons (pe_op op_addU pe_int (pv 7)) pa_nil))))))) (fun _ _ _ _ _ => (pv 7))) (pe_lst pa_nil) (nomark _))))))))))))), fun ws ka out B F0 Q hC hR hX => ?_⟩)
  obtain ⟨s0, rfl, zs, hs0, rfl, rfl⟩ := hC
  have E : ErrC K errN "ShowError" := T.errs
  refine q_call (kr := []) (k1 := []) (ea2 (ev_callP (ea2 (ev_var rfl) ev_int) ⟨_, _, rfl, zs, 0, hs0, rfl, rfl, rfl⟩) ev_int) ⟨_, _, rfl, zs.getD 0 0, 0, rfl, rfl, rfl, rfl⟩ (fun o k ⟨d, h, _⟩ => ⟨_, h⟩) ?_
  rintro da _ ⟨d', e, pa, rfl⟩
  cases e
  refine q_call (kr := []) (k1 := []) (ea2 (ev_callP (ea2 (ev_var rfl) ev_int) ⟨_, _, rfl, zs, 1, hs0, rfl, rfl, rfl⟩) ev_int) ⟨_, _, rfl, zs.getD 1 0, 1, rfl, rfl, rfl, rfl⟩ (fun o k ⟨d, h, _⟩ => ⟨_, h⟩) ?_
  rintro db _ ⟨d', e, pb, rfl⟩
  cases e
  refine q_call (kr := []) (k1 := []) (ea2 (ev_callP (ea2 (ev_var rfl) ev_int) ⟨_, _, rfl, zs, 2, hs0, rfl, rfl, rfl⟩) ev_int) ⟨_, _, rfl, zs.getD 2 0, 2, rfl, rfl, rfl, rfl⟩ (fun o k ⟨d, h, _⟩ => ⟨_, h⟩) ?_
  rintro dc _ ⟨d', e, pc, rfl⟩
  cases e
  refine q_asgT (w := .val (.lst [.lst (nms1.map (ex1 K da)), .lst (List.replicate 19 da)])) (ev_callP (ea1 (ev_var rfl)) ⟨_, rfl, da, rfl, rfl, rfl⟩) at_l2 ?_
  have up : ∀ (n m : Nat) (d : D), n ≤ m → pl n d = true → pl m d = true := pl_up
  have pk : pl 61 (.lst (List.replicate 19 da)) = true := List.all_eq_true.mpr fun x hx => by
    rw [List.eq_of_mem_replicate hx]
    exact up 3 60 _ (by decide) pa
  refine q_when (b := false) ((et_test (ev_ne (d := .lst (List.replicate 19 da)) (e := .lst (List.replicate 19 da)) (ev_var rfl) (EvD.to (EvN.lst (evn_map (xs := List.replicate 19 da) (g := fun x => W.val x) (f := fun _ => da) (ei_map (ts := List.replicate 19 da) (f := fun x => x) (EvD.to (ev_var rfl) (by rw [List.map_id']))) (by decide) (Nat.le_of_ble_eq_true rfl) ⟨trivial, fun _ => trivial⟩ (fun x hx => ev_var rfl))) rfl) .v .v pk pk)).to (by rw [eqD_refl 61 _ pk]; rfl)) (fun z => by cases z) (fun _ => ?_)
  have err : ∀ i : Nat, i < 19 → errN[i]? = some (nms1.getD i ("", "")).1 ∧ (nms1.map (ex1 K da)).getD i .non = .exc (He.ga K (nms1.getD i ("", "")).1) [((nms1.getD i ("", "")).2, da)] := fun i hi => by
    rcases (by omega : i = 0 ∨ i = 1 ∨ i = 2 ∨ i = 3 ∨ i = 4 ∨ i = 5 ∨ i = 6 ∨ i = 7 ∨ i = 8 ∨ i = 9 ∨ i = 10 ∨ i = 11 ∨ i = 12 ∨ i = 13 ∨ i = 14 ∨ i = 15 ∨ i = 16 ∨ i = 17 ∨ i = 18) with rfl | rfl | rfl | rfl | rfl | rfl | rfl | rfl | rfl | rfl | rfl | rfl | rfl | rfl | rfl | rfl | rfl | rfl | rfl
    all_goals exact ⟨rfl, rfl⟩
  refine q_forT (ei_enum (ds := nms1.map (ex1 K da)) (ev_var rfl) .vl) (fun i ro ka => (∃ v6 v7 v8 v9 : Option W, ro = [some s0, some (.val da), some (.val db), some (.val dc), some (.val (.lst (nms1.map (ex1 K da)))), some (.val (.lst (List.replicate 19 da))), v6, v7, v8, v9]) ∧ ka = []) ⟨⟨_, _, _, _, rfl⟩, rfl⟩ (fun i ro ka _ => trivial) (fun i w ro2 ka2 ta2 hw h => ?_) (fun ro2 ka2 ta2 h hta2 => ?_)
  · obtain ⟨⟨v6, v7, v8, v9, e1⟩, e2⟩ := h
    subst e1 e2
    rw [List.getElem?_map] at hw
    obtain ⟨i', hi', rfl⟩ := Option.map_eq_some_iff.mp hw
    obtain ⟨hi1, hi2⟩ := List.getElem?_eq_some_iff.mp hi'
    rw [List.getElem_range] at hi2
    subst hi2
    rw [List.length_range] at hi1
    have hi : i < 19 := hi1
    obtain ⟨h1, h2⟩ := err i hi
    rw [h2]
    refine ⟨_, at_t2, ?_⟩
    exact g_if (b := false) ((et_not (et_B (ev_callP (d := .bl true) (ea2 (ev_var rfl) (ev_var rfl)) ⟨_, _, rfl, i, _, _, h1, rfl, rfl, rfl, rfl⟩))).to rfl) (fun z => by cases z) (fun _ => g_next (g_jp ⟨⟨_, _, _, _, rfl⟩, rfl⟩))
  obtain ⟨⟨v6, v7, v8, v9, e1⟩, e2⟩ := h
  subst e1 e2
  refine q_asg (w := .val (.exc (He.ga K "NoRound") [("side", dc), ("second", db), ("first", da)])) (ev_exc3 (ea3 (ev_var rfl) (ev_var rfl) (ev_var rfl)) Z_NoRound.xc.oex Z_NoRound.n1 Z_NoRound.n2 Z_NoRound.n3) ?_
  have p3 : pl 61 (.lst [da, db, dc]) = true := List.all_eq_true.mpr fun x hx => by
    simp only [List.mem_cons, List.not_mem_nil, or_false] at hx
    rcases hx with rfl | rfl | rfl
    · exact up 3 60 _ (by decide) pa
    · exact up 3 60 _ (by decide) pb
    · exact up 3 60 _ (by decide) pc
  have KX := (E.kx 19 "NoRound" rfl).xf
  refine q_when (b := false) (et_or0 ((et_test (ev_ne (d := .lst [da, db, dc]) (e := .lst [da, db, dc]) (evn_lst (ds := [da, db, dc]) (ea3 (ev_xfV (ev_var rfl) KX Z_NoRound.n1 (by first | rfl | (with_unfolding_all rfl) | (simp; done))) (ev_xfV (ev_var rfl) KX Z_NoRound.n2 (by first | rfl | (with_unfolding_all rfl) | (simp; done))) (ev_xfV (ev_var rfl) KX Z_NoRound.n3 (by first | rfl | (with_unfolding_all rfl) | (simp; done)))) (show 3 ≤ 100000 by decide)).lst (evn_lst (ds := [da, db, dc]) (ea3 (ev_var rfl) (ev_var rfl) (ev_var rfl)) (show 3 ≤ 100000 by decide)).lst .v .v p3 p3)).to (by rw [eqD_refl 61 _ p3]; rfl)) ((et_not (et_B (ev_callP (d := .bl true) (ea2 (ev_var rfl) ev_int) ⟨_, _, rfl, 19, "NoRound", _, rfl, rfl, rfl, rfl, rfl⟩))).to rfl)) (fun z => by cases z) (fun _ => ?_)
  refine q_asg (w := .val (.lst (plN.map fun x => .exc (He.ga K x) []))) (EvN.lst (evn_lst (ds := plN.map fun x => .exc (He.ga K x) []) (ea_cons ev_exc0 (ea_cons ev_exc0 (ea_cons ev_exc0 (ea3 ev_exc0 ev_exc0 ev_exc0)))) (Nat.le_of_ble_eq_true rfl))) ?_
  have nl : ((List.range plN.length).filter fun _ => false).map (fun i : Nat => D.int (i : Int)) = [] := rfl
  refine g_ret hR ((ev_eq (d := .lst []) (e := .lst []) (EvD.to (EvN.lst (evn_filtE (xs := plN) "" (g := fun x => .exc (He.ga K x) []) (f := fun i _ => .int (i : Int)) (p := fun _ _ => false) (ei_enum (ds := plN.map fun x => .exc (He.ga K x) []) (ev_var rfl) .vl) (by decide) (by decide) (by decide) ⟨trivial, fun _ => trivial⟩ (fun i hi => ?tst) (fun i hi z => by cases z))) rfl) (evn_lst (ds := []) ea_nil (by decide)).lst .v .v rfl rfl).to rfl) ⟨rfl, rfl⟩
  have hi : i < 6 := hi
  have hx : errN[20 + i]? = some (plN.getD i "") := by
    rcases (by omega : i = 0 ∨ i = 1 ∨ i = 2 ∨ i = 3 ∨ i = 4 ∨ i = 5) with rfl | rfl | rfl | rfl | rfl | rfl
    all_goals rfl
  exact (et_not (et_B (ev_callP (d := .bl true) (ea2 (ev_var rfl) ((ev_addI ev_int (ev_var rfl)).to (w' := .val (.int ((20 + i : Nat) : Int))) (congrArg (fun z => W.val (.int z)) (by push_cast; rfl)))) ⟨_, _, rfl, 20 + i, _, _, hx, rfl, rfl, rfl, rfl⟩))).to rfl
end
theorem tx_of {K : PySem.W.Frag} {mg : Str → Option Value} {h : Heap} (X : K.In h) (G : h.Ns mainGlobals mg) (c : SaysY exs dfs K) : Tx K mg where
  errs := err_ok (c.fact 0 (f := fErr ["BadName", "NameTaken", "NoPost", "NoLane", "Clash", "NoPattern", "NoRun", "SameLane", "Brought", "StillWanted", "NotWanted", "BadWalk", "BadText", "BadDeed", "OneRing", "NotSure", "BadNumber", "BadWord", "BadLine", "NoRound", "EmptyWalk", "EmptyWord", "NotWalk", "NotOnePart", "NothingWanted", "NothingBack"] "ShowError"))
  n_len := He.free_ok X G (c.fact 1 (f := fFree "len"))
  n_int := He.free_ok X G (c.fact 2 (f := fFree "int"))
  n_str := He.free_ok X G (c.fact 3 (f := fFree "str"))
  n_abs := He.free_ok X G (c.fact 4 (f := fFree "abs"))
  g_SameLane := ⟨He.glo_ok X G (He.ba (c.fact 5 (f := fGlo "SameLane"))).1, (He.ba (c.fact 5 (f := fGlo "SameLane"))).2⟩
  g_NoRun := ⟨He.glo_ok X G (He.ba (c.fact 6 (f := fGlo "NoRun"))).1, (He.ba (c.fact 6 (f := fGlo "NoRun"))).2⟩
  g_NoPattern := ⟨He.glo_ok X G (He.ba (c.fact 7 (f := fGlo "NoPattern"))).1, (He.ba (c.fact 7 (f := fGlo "NoPattern"))).2⟩
  g_Clash := ⟨He.glo_ok X G (He.ba (c.fact 8 (f := fGlo "Clash"))).1, (He.ba (c.fact 8 (f := fGlo "Clash"))).2⟩
  g_NoLane := ⟨He.glo_ok X G (He.ba (c.fact 9 (f := fGlo "NoLane"))).1, (He.ba (c.fact 9 (f := fGlo "NoLane"))).2⟩
  g_NoPost := ⟨He.glo_ok X G (He.ba (c.fact 10 (f := fGlo "NoPost"))).1, (He.ba (c.fact 10 (f := fGlo "NoPost"))).2⟩
  g_NameTaken := ⟨He.glo_ok X G (He.ba (c.fact 11 (f := fGlo "NameTaken"))).1, (He.ba (c.fact 11 (f := fGlo "NameTaken"))).2⟩
  g_BadName := ⟨He.glo_ok X G (He.ba (c.fact 12 (f := fGlo "BadName"))).1, (He.ba (c.fact 12 (f := fGlo "BadName"))).2⟩
  g_NotWanted := ⟨He.glo_ok X G (He.ba (c.fact 13 (f := fGlo "NotWanted"))).1, (He.ba (c.fact 13 (f := fGlo "NotWanted"))).2⟩
  g_StillWanted := ⟨He.glo_ok X G (He.ba (c.fact 14 (f := fGlo "StillWanted"))).1, (He.ba (c.fact 14 (f := fGlo "StillWanted"))).2⟩
  g_Brought := ⟨He.glo_ok X G (He.ba (c.fact 15 (f := fGlo "Brought"))).1, (He.ba (c.fact 15 (f := fGlo "Brought"))).2⟩
  g_BadDeed := ⟨He.glo_ok X G (He.ba (c.fact 16 (f := fGlo "BadDeed"))).1, (He.ba (c.fact 16 (f := fGlo "BadDeed"))).2⟩
  g_BadText := ⟨He.glo_ok X G (He.ba (c.fact 17 (f := fGlo "BadText"))).1, (He.ba (c.fact 17 (f := fGlo "BadText"))).2⟩
  g_BadWalk := ⟨He.glo_ok X G (He.ba (c.fact 18 (f := fGlo "BadWalk"))).1, (He.ba (c.fact 18 (f := fGlo "BadWalk"))).2⟩
  g_NotSure := ⟨He.glo_ok X G (He.ba (c.fact 19 (f := fGlo "NotSure"))).1, (He.ba (c.fact 19 (f := fGlo "NotSure"))).2⟩
  g_OneRing := ⟨He.glo_ok X G (He.ba (c.fact 20 (f := fGlo "OneRing"))).1, (He.ba (c.fact 20 (f := fGlo "OneRing"))).2⟩
  g_BadLine := ⟨He.glo_ok X G (He.ba (c.fact 21 (f := fGlo "BadLine"))).1, (He.ba (c.fact 21 (f := fGlo "BadLine"))).2⟩
  g_BadWord := ⟨He.glo_ok X G (He.ba (c.fact 22 (f := fGlo "BadWord"))).1, (He.ba (c.fact 22 (f := fGlo "BadWord"))).2⟩
  g_BadNumber := ⟨He.glo_ok X G (He.ba (c.fact 23 (f := fGlo "BadNumber"))).1, (He.ba (c.fact 23 (f := fGlo "BadNumber"))).2⟩
  n_isinstance := He.free_ok X G (c.fact 24 (f := fFree "isinstance"))
  g_NoRound := ⟨He.glo_ok X G (He.ba (c.fact 25 (f := fGlo "NoRound"))).1, (He.ba (c.fact 25 (f := fGlo "NoRound"))).2⟩
  g_NotWalk := ⟨He.glo_ok X G (He.ba (c.fact 26 (f := fGlo "NotWalk"))).1, (He.ba (c.fact 26 (f := fGlo "NotWalk"))).2⟩
  g_EmptyWord := ⟨He.glo_ok X G (He.ba (c.fact 27 (f := fGlo "EmptyWord"))).1, (He.ba (c.fact 27 (f := fGlo "EmptyWord"))).2⟩
  g_EmptyWalk := ⟨He.glo_ok X G (He.ba (c.fact 28 (f := fGlo "EmptyWalk"))).1, (He.ba (c.fact 28 (f := fGlo "EmptyWalk"))).2⟩
  g_NothingBack := ⟨He.glo_ok X G (He.ba (c.fact 29 (f := fGlo "NothingBack"))).1, (He.ba (c.fact 29 (f := fGlo "NothingBack"))).2⟩
  g_NothingWanted := ⟨He.glo_ok X G (He.ba (c.fact 30 (f := fGlo "NothingWanted"))).1, (He.ba (c.fact 30 (f := fGlo "NothingWanted"))).2⟩
  g_NotOnePart := ⟨He.glo_ok X G (He.ba (c.fact 31 (f := fGlo "NotOnePart"))).1, (He.ba (c.fact 31 (f := fGlo "NotOnePart"))).2⟩
  n_range := He.free_ok X G (c.fact 32 (f := fFree "range"))
  n_ValueError := He.free_ok X G (c.fact 33 (f := fFree "ValueError"))
  g_ShowError := ⟨He.glo_ok X G (He.ba (c.fact 34 (f := fGlo "ShowError"))).1, (He.ba (c.fact 34 (f := fGlo "ShowError"))).2⟩
  g_law_classes := ⟨He.glo_ok X G (He.ba (c.fact 35 (f := fGlo "_law_classes"))).1, (He.ba (c.fact 35 (f := fGlo "_law_classes"))).2⟩
  g_law_thing := ⟨He.glo_ok X G (He.ba (c.fact 36 (f := fGlo "_law_thing"))).1, (He.ba (c.fact 36 (f := fGlo "_law_thing"))).2⟩
  g_law_cell := ⟨He.glo_ok X G (He.ba (c.fact 37 (f := fGlo "_law_cell"))).1, (He.ba (c.fact 37 (f := fGlo "_law_cell"))).2⟩
  g_law_named := ⟨He.glo_ok X G (He.ba (c.fact 38 (f := fGlo "_law_named"))).1, (He.ba (c.fact 38 (f := fGlo "_law_named"))).2⟩
  n_enumerate := He.free_ok X G (c.fact 39 (f := fFree "enumerate"))
  g_law_alone := ⟨He.glo_ok X G (He.ba (c.fact 40 (f := fGlo "_law_alone"))).1, (He.ba (c.fact 40 (f := fGlo "_law_alone"))).2⟩
  x0_NothingBack := He.exc_ok (c.fact 41 (f := fX0 "NothingBack"))
  x0_NothingWanted := He.exc_ok (c.fact 42 (f := fX0 "NothingWanted"))
  x0_NotOnePart := He.exc_ok (c.fact 43 (f := fX0 "NotOnePart"))
  x0_NotWalk := He.exc_ok (c.fact 44 (f := fX0 "NotWalk"))
  x0_EmptyWord := He.exc_ok (c.fact 45 (f := fX0 "EmptyWord"))
  x0_EmptyWalk := He.exc_ok (c.fact 46 (f := fX0 "EmptyWalk"))
  xc_BadDeed := xcB_ok (c.fact 47 (f := fXc "BadDeed"))
  xi_BadDeed := xi_ok (c.fact 48 (f := fXi "BadDeed"))
  xn_BadDeed_place := He.noat_ok (c.fact 49 (f := fNoat "BadDeed" "place"))
  xc_BadLine := xcB_ok (c.fact 50 (f := fXc "BadLine"))
  xi_BadLine := xi_ok (c.fact 51 (f := fXi "BadLine"))
  xn_BadLine_line := He.noat_ok (c.fact 52 (f := fNoat "BadLine" "line"))
  xc_BadName := xcB_ok (c.fact 53 (f := fXc "BadName"))
  xi_BadName := xi_ok (c.fact 54 (f := fXi "BadName"))
  xn_BadName_name := He.noat_ok (c.fact 55 (f := fNoat "BadName" "name"))
  xc_BadNumber := xcB_ok (c.fact 56 (f := fXc "BadNumber"))
  xi_BadNumber := xi_ok (c.fact 57 (f := fXi "BadNumber"))
  xn_BadNumber_value := He.noat_ok (c.fact 58 (f := fNoat "BadNumber" "value"))
  xc_BadText := xcB_ok (c.fact 59 (f := fXc "BadText"))
  xi_BadText := xi_ok (c.fact 60 (f := fXi "BadText"))
  xn_BadText_place := He.noat_ok (c.fact 61 (f := fNoat "BadText" "place"))
  xc_BadWalk := xcB_ok (c.fact 62 (f := fXc "BadWalk"))
  xi_BadWalk := xi_ok (c.fact 63 (f := fXi "BadWalk"))
  xn_BadWalk_place := He.noat_ok (c.fact 64 (f := fNoat "BadWalk" "place"))
  xc_BadWord := xcB_ok (c.fact 65 (f := fXc "BadWord"))
  xi_BadWord := xi_ok (c.fact 66 (f := fXi "BadWord"))
  xn_BadWord_word := He.noat_ok (c.fact 67 (f := fNoat "BadWord" "word"))
  xc_Brought := xcB_ok (c.fact 68 (f := fXc "Brought"))
  xi_Brought := xi_ok (c.fact 69 (f := fXi "Brought"))
  xn_Brought_name := He.noat_ok (c.fact 70 (f := fNoat "Brought" "name"))
  xc_Clash := xcB_ok (c.fact 71 (f := fXc "Clash"))
  xi_Clash := xi_ok (c.fact 72 (f := fXi "Clash"))
  xn_Clash_name := He.noat_ok (c.fact 73 (f := fNoat "Clash" "name"))
  xc_NameTaken := xcB_ok (c.fact 74 (f := fXc "NameTaken"))
  xi_NameTaken := xi_ok (c.fact 75 (f := fXi "NameTaken"))
  xn_NameTaken_name := He.noat_ok (c.fact 76 (f := fNoat "NameTaken" "name"))
  xc_NoLane := xcB_ok (c.fact 77 (f := fXc "NoLane"))
  xi_NoLane := xi_ok (c.fact 78 (f := fXi "NoLane"))
  xn_NoLane_name := He.noat_ok (c.fact 79 (f := fNoat "NoLane" "name"))
  xc_NoPattern := xcB_ok (c.fact 80 (f := fXc "NoPattern"))
  xi_NoPattern := xi_ok (c.fact 81 (f := fXi "NoPattern"))
  xn_NoPattern_name := He.noat_ok (c.fact 82 (f := fNoat "NoPattern" "name"))
  xc_NoPost := xcB_ok (c.fact 83 (f := fXc "NoPost"))
  xi_NoPost := xi_ok (c.fact 84 (f := fXi "NoPost"))
  xn_NoPost_name := He.noat_ok (c.fact 85 (f := fNoat "NoPost" "name"))
  xc_NoRun := xcB_ok (c.fact 86 (f := fXc "NoRun"))
  xi_NoRun := xi_ok (c.fact 87 (f := fXi "NoRun"))
  xn_NoRun_name := He.noat_ok (c.fact 88 (f := fNoat "NoRun" "name"))
  xc_NotSure := xcB_ok (c.fact 89 (f := fXc "NotSure"))
  xi_NotSure := xi_ok (c.fact 90 (f := fXi "NotSure"))
  xn_NotSure_ring := He.noat_ok (c.fact 91 (f := fNoat "NotSure" "ring"))
  xc_NotWanted := xcB_ok (c.fact 92 (f := fXc "NotWanted"))
  xi_NotWanted := xi_ok (c.fact 93 (f := fXi "NotWanted"))
  xn_NotWanted_name := He.noat_ok (c.fact 94 (f := fNoat "NotWanted" "name"))
  xc_OneRing := xcB_ok (c.fact 95 (f := fXc "OneRing"))
  xi_OneRing := xi_ok (c.fact 96 (f := fXi "OneRing"))
  xn_OneRing_ring := He.noat_ok (c.fact 97 (f := fNoat "OneRing" "ring"))
  xc_SameLane := xcB_ok (c.fact 98 (f := fXc "SameLane"))
  xi_SameLane := xi_ok (c.fact 99 (f := fXi "SameLane"))
  xn_SameLane_name := He.noat_ok (c.fact 100 (f := fNoat "SameLane" "name"))
  xc_StillWanted := xcB_ok (c.fact 101 (f := fXc "StillWanted"))
  xi_StillWanted := xi_ok (c.fact 102 (f := fXi "StillWanted"))
  xn_StillWanted_name := He.noat_ok (c.fact 103 (f := fNoat "StillWanted" "name"))
  xc_NoRound := xcB_ok (c.fact 104 (f := fXc "NoRound"))
  xi_NoRound := xi_ok (c.fact 105 (f := fXi "NoRound"))
  xn_NoRound_first := He.noat_ok (c.fact 106 (f := fNoat "NoRound" "first"))
  xn_NoRound_second := He.noat_ok (c.fact 107 (f := fNoat "NoRound" "second"))
  xn_NoRound_side := He.noat_ok (c.fact 108 (f := fNoat "NoRound" "side"))
  g_law := ⟨He.glo_ok X G (He.ba (c.fact 109 (f := fGlo "law"))).1, (He.ba (c.fact 109 (f := fGlo "law"))).2⟩
  d_law_cell := c.def_ 0
  d_law_thing := c.def_ 1
  d_law_named := c.def_ 2
  d_law_classes := c.def_ 3
  d_law_alone := c.def_ 4
  d_law := c.def_ 5
  d_BadDeed___init := c.def_ 6
  d_BadLine___init := c.def_ 7
  d_BadName___init := c.def_ 8
  d_BadNumber___init := c.def_ 9
  d_BadText___init := c.def_ 10
  d_BadWalk___init := c.def_ 11
  d_BadWord___init := c.def_ 12
  d_Brought___init := c.def_ 13
  d_Clash___init := c.def_ 14
  d_NameTaken___init := c.def_ 15
  d_NoLane___init := c.def_ 16
  d_NoPattern___init := c.def_ 17
  d_NoPost___init := c.def_ 18
  d_NoRun___init := c.def_ 19
  d_NotSure___init := c.def_ 20
  d_NotWanted___init := c.def_ 21
  d_OneRing___init := c.def_ 22
  d_SameLane___init := c.def_ 23
  d_StillWanted___init := c.def_ 24
  d_NoRound___init := c.def_ 25
section
variable {P : Program} {w : World} {K : PySem.W.Frag} {mg : Str → Option Value} {base : Heap}
theorem z_BadDeed (T : Tx K mg) : Xn P w K mg base (He.ga K "BadDeed") "place" := by
  obtain ⟨fd, F⟩ := T.d_BadDeed___init
  exact ⟨T.xc_BadDeed, T.xn_BadDeed_place, _, fd, "place", T.xi_BadDeed.1, T.xi_BadDeed.2, init1_ok F sc_BadDeed___init (fun cdv A outer s H E => pss_one (ps_ost (pv 0) (pv 1))), F.bindsN (fun _ _ _ _ _ _ us hl => match us, hl with | [_, _], _ => rfl)⟩
theorem z_BadLine (T : Tx K mg) : Xn P w K mg base (He.ga K "BadLine") "line" := by
  obtain ⟨fd, F⟩ := T.d_BadLine___init
  exact ⟨T.xc_BadLine, T.xn_BadLine_line, _, fd, "line", T.xi_BadLine.1, T.xi_BadLine.2, init1_ok F sc_BadLine___init (fun cdv A outer s H E => pss_one (ps_ost (pv 0) (pv 1))), F.bindsN (fun _ _ _ _ _ _ us hl => match us, hl with | [_, _], _ => rfl)⟩
theorem z_BadName (T : Tx K mg) : Xn P w K mg base (He.ga K "BadName") "name" := by
  obtain ⟨fd, F⟩ := T.d_BadName___init
  exact ⟨T.xc_BadName, T.xn_BadName_name, _, fd, "name", T.xi_BadName.1, T.xi_BadName.2, init1_ok F sc_BadName___init (fun cdv A outer s H E => pss_one (ps_ost (pv 0) (pv 1))), F.bindsN (fun _ _ _ _ _ _ us hl => match us, hl with | [_, _], _ => rfl)⟩
theorem z_BadNumber (T : Tx K mg) : Xn P w K mg base (He.ga K "BadNumber") "value" := by
  obtain ⟨fd, F⟩ := T.d_BadNumber___init
  exact ⟨T.xc_BadNumber, T.xn_BadNumber_value, _, fd, "value", T.xi_BadNumber.1, T.xi_BadNumber.2, init1_ok F sc_BadNumber___init (fun cdv A outer s H E => pss_one (ps_ost (pv 0) (pv 1))), F.bindsN (fun _ _ _ _ _ _ us hl => match us, hl with | [_, _], _ => rfl)⟩
theorem z_BadText (T : Tx K mg) : Xn P w K mg base (He.ga K "BadText") "place" := by
  obtain ⟨fd, F⟩ := T.d_BadText___init
  exact ⟨T.xc_BadText, T.xn_BadText_place, _, fd, "place", T.xi_BadText.1, T.xi_BadText.2, init1_ok F sc_BadText___init (fun cdv A outer s H E => pss_one (ps_ost (pv 0) (pv 1))), F.bindsN (fun _ _ _ _ _ _ us hl => match us, hl with | [_, _], _ => rfl)⟩
theorem z_BadWalk (T : Tx K mg) : Xn P w K mg base (He.ga K "BadWalk") "place" := by
  obtain ⟨fd, F⟩ := T.d_BadWalk___init
  exact ⟨T.xc_BadWalk, T.xn_BadWalk_place, _, fd, "place", T.xi_BadWalk.1, T.xi_BadWalk.2, init1_ok F sc_BadWalk___init (fun cdv A outer s H E => pss_one (ps_ost (pv 0) (pv 1))), F.bindsN (fun _ _ _ _ _ _ us hl => match us, hl with | [_, _], _ => rfl)⟩
theorem z_BadWord (T : Tx K mg) : Xn P w K mg base (He.ga K "BadWord") "word" := by
  obtain ⟨fd, F⟩ := T.d_BadWord___init
  exact ⟨T.xc_BadWord, T.xn_BadWord_word, _, fd, "word", T.xi_BadWord.1, T.xi_BadWord.2, init1_ok F sc_BadWord___init (fun cdv A outer s H E => pss_one (ps_ost (pv 0) (pv 1))), F.bindsN (fun _ _ _ _ _ _ us hl => match us, hl with | [_, _], _ => rfl)⟩
theorem z_Brought (T : Tx K mg) : Xn P w K mg base (He.ga K "Brought") "name" := by
  obtain ⟨fd, F⟩ := T.d_Brought___init
  exact ⟨T.xc_Brought, T.xn_Brought_name, _, fd, "name", T.xi_Brought.1, T.xi_Brought.2, init1_ok F sc_Brought___init (fun cdv A outer s H E => pss_one (ps_ost (pv 0) (pv 1))), F.bindsN (fun _ _ _ _ _ _ us hl => match us, hl with | [_, _], _ => rfl)⟩
theorem z_Clash (T : Tx K mg) : Xn P w K mg base (He.ga K "Clash") "name" := by
  obtain ⟨fd, F⟩ := T.d_Clash___init
  exact ⟨T.xc_Clash, T.xn_Clash_name, _, fd, "name", T.xi_Clash.1, T.xi_Clash.2, init1_ok F sc_Clash___init (fun cdv A outer s H E => pss_one (ps_ost (pv 0) (pv 1))), F.bindsN (fun _ _ _ _ _ _ us hl => match us, hl with | [_, _], _ => rfl)⟩
theorem z_NameTaken (T : Tx K mg) : Xn P w K mg base (He.ga K "NameTaken") "name" := by
  obtain ⟨fd, F⟩ := T.d_NameTaken___init
  exact ⟨T.xc_NameTaken, T.xn_NameTaken_name, _, fd, "name", T.xi_NameTaken.1, T.xi_NameTaken.2, init1_ok F sc_NameTaken___init (fun cdv A outer s H E => pss_one (ps_ost (pv 0) (pv 1))), F.bindsN (fun _ _ _ _ _ _ us hl => match us, hl with | [_, _], _ => rfl)⟩
theorem z_NoLane (T : Tx K mg) : Xn P w K mg base (He.ga K "NoLane") "name" := by
  obtain ⟨fd, F⟩ := T.d_NoLane___init
  exact ⟨T.xc_NoLane, T.xn_NoLane_name, _, fd, "name", T.xi_NoLane.1, T.xi_NoLane.2, init1_ok F sc_NoLane___init (fun cdv A outer s H E => pss_one (ps_ost (pv 0) (pv 1))), F.bindsN (fun _ _ _ _ _ _ us hl => match us, hl with | [_, _], _ => rfl)⟩
theorem z_NoPattern (T : Tx K mg) : Xn P w K mg base (He.ga K "NoPattern") "name" := by
  obtain ⟨fd, F⟩ := T.d_NoPattern___init
  exact ⟨T.xc_NoPattern, T.xn_NoPattern_name, _, fd, "name", T.xi_NoPattern.1, T.xi_NoPattern.2, init1_ok F sc_NoPattern___init (fun cdv A outer s H E => pss_one (ps_ost (pv 0) (pv 1))), F.bindsN (fun _ _ _ _ _ _ us hl => match us, hl with | [_, _], _ => rfl)⟩
theorem z_NoPost (T : Tx K mg) : Xn P w K mg base (He.ga K "NoPost") "name" := by
  obtain ⟨fd, F⟩ := T.d_NoPost___init
  exact ⟨T.xc_NoPost, T.xn_NoPost_name, _, fd, "name", T.xi_NoPost.1, T.xi_NoPost.2, init1_ok F sc_NoPost___init (fun cdv A outer s H E => pss_one (ps_ost (pv 0) (pv 1))), F.bindsN (fun _ _ _ _ _ _ us hl => match us, hl with | [_, _], _ => rfl)⟩
theorem z_NoRun (T : Tx K mg) : Xn P w K mg base (He.ga K "NoRun") "name" := by
  obtain ⟨fd, F⟩ := T.d_NoRun___init
  exact ⟨T.xc_NoRun, T.xn_NoRun_name, _, fd, "name", T.xi_NoRun.1, T.xi_NoRun.2, init1_ok F sc_NoRun___init (fun cdv A outer s H E => pss_one (ps_ost (pv 0) (pv 1))), F.bindsN (fun _ _ _ _ _ _ us hl => match us, hl with | [_, _], _ => rfl)⟩
theorem z_NotSure (T : Tx K mg) : Xn P w K mg base (He.ga K "NotSure") "ring" := by
  obtain ⟨fd, F⟩ := T.d_NotSure___init
  exact ⟨T.xc_NotSure, T.xn_NotSure_ring, _, fd, "ring", T.xi_NotSure.1, T.xi_NotSure.2, init1_ok F sc_NotSure___init (fun cdv A outer s H E => pss_one (ps_ost (pv 0) (pv 1))), F.bindsN (fun _ _ _ _ _ _ us hl => match us, hl with | [_, _], _ => rfl)⟩
theorem z_NotWanted (T : Tx K mg) : Xn P w K mg base (He.ga K "NotWanted") "name" := by
  obtain ⟨fd, F⟩ := T.d_NotWanted___init
  exact ⟨T.xc_NotWanted, T.xn_NotWanted_name, _, fd, "name", T.xi_NotWanted.1, T.xi_NotWanted.2, init1_ok F sc_NotWanted___init (fun cdv A outer s H E => pss_one (ps_ost (pv 0) (pv 1))), F.bindsN (fun _ _ _ _ _ _ us hl => match us, hl with | [_, _], _ => rfl)⟩
theorem z_OneRing (T : Tx K mg) : Xn P w K mg base (He.ga K "OneRing") "ring" := by
  obtain ⟨fd, F⟩ := T.d_OneRing___init
  exact ⟨T.xc_OneRing, T.xn_OneRing_ring, _, fd, "ring", T.xi_OneRing.1, T.xi_OneRing.2, init1_ok F sc_OneRing___init (fun cdv A outer s H E => pss_one (ps_ost (pv 0) (pv 1))), F.bindsN (fun _ _ _ _ _ _ us hl => match us, hl with | [_, _], _ => rfl)⟩
theorem z_SameLane (T : Tx K mg) : Xn P w K mg base (He.ga K "SameLane") "name" := by
  obtain ⟨fd, F⟩ := T.d_SameLane___init
  exact ⟨T.xc_SameLane, T.xn_SameLane_name, _, fd, "name", T.xi_SameLane.1, T.xi_SameLane.2, init1_ok F sc_SameLane___init (fun cdv A outer s H E => pss_one (ps_ost (pv 0) (pv 1))), F.bindsN (fun _ _ _ _ _ _ us hl => match us, hl with | [_, _], _ => rfl)⟩
theorem z_StillWanted (T : Tx K mg) : Xn P w K mg base (He.ga K "StillWanted") "name" := by
  obtain ⟨fd, F⟩ := T.d_StillWanted___init
  exact ⟨T.xc_StillWanted, T.xn_StillWanted_name, _, fd, "name", T.xi_StillWanted.1, T.xi_StillWanted.2, init1_ok F sc_StillWanted___init (fun cdv A outer s H E => pss_one (ps_ost (pv 0) (pv 1))), F.bindsN (fun _ _ _ _ _ _ us hl => match us, hl with | [_, _], _ => rfl)⟩
theorem z_NoRound (T : Tx K mg) : X3 P w K mg base (He.ga K "NoRound") "first" "second" "side" := by
  obtain ⟨fd, F⟩ := T.d_NoRound___init
  exact ⟨T.xc_NoRound, T.xn_NoRound_first, T.xn_NoRound_second, T.xn_NoRound_side, _, fd, "first", "second", "side", T.xi_NoRound.1, T.xi_NoRound.2, init3_ok F sc_NoRound___init (fun cdv A outer s H E => pss_cons (ps_ost (pv 0) (pv 1)) (pss_cons (ps_ost (pv 0) (pv 2)) (pss_one (ps_ost (pv 0) (pv 3))))), F.bindsN (fun _ _ _ _ _ _ us hl => match us, hl with | [_, _, _, _], _ => rfl)⟩
theorem all_ok {fd : FuncData} (T : Tx K mg) (F : FunD K "law" "law" (defArgs s_law) (defBody s_law) (defScope s_law) [] [] (He.ga K "law") fd) : FnOk P w K mg base (L2.CX P w) 8 (He.ga K "law") fd ["_law_script"] (spC K (ct_law K)) := by
  have Z_BadDeed : Xn P w K mg base (He.ga K "BadDeed") "place" := z_BadDeed T
  have Z_BadLine : Xn P w K mg base (He.ga K "BadLine") "line" := z_BadLine T
  have Z_BadName : Xn P w K mg base (He.ga K "BadName") "name" := z_BadName T
  have Z_BadNumber : Xn P w K mg base (He.ga K "BadNumber") "value" := z_BadNumber T
  have Z_BadText : Xn P w K mg base (He.ga K "BadText") "place" := z_BadText T
  have Z_BadWalk : Xn P w K mg base (He.ga K "BadWalk") "place" := z_BadWalk T
  have Z_BadWord : Xn P w K mg base (He.ga K "BadWord") "word" := z_BadWord T
  have Z_Brought : Xn P w K mg base (He.ga K "Brought") "name" := z_Brought T
  have Z_Clash : Xn P w K mg base (He.ga K "Clash") "name" := z_Clash T
  have Z_NameTaken : Xn P w K mg base (He.ga K "NameTaken") "name" := z_NameTaken T
  have Z_NoLane : Xn P w K mg base (He.ga K "NoLane") "name" := z_NoLane T
  have Z_NoPattern : Xn P w K mg base (He.ga K "NoPattern") "name" := z_NoPattern T
  have Z_NoPost : Xn P w K mg base (He.ga K "NoPost") "name" := z_NoPost T
  have Z_NoRun : Xn P w K mg base (He.ga K "NoRun") "name" := z_NoRun T
  have Z_NotSure : Xn P w K mg base (He.ga K "NotSure") "ring" := z_NotSure T
  have Z_NotWanted : Xn P w K mg base (He.ga K "NotWanted") "name" := z_NotWanted T
  have Z_OneRing : Xn P w K mg base (He.ga K "OneRing") "ring" := z_OneRing T
  have Z_SameLane : Xn P w K mg base (He.ga K "SameLane") "name" := z_SameLane T
  have Z_StillWanted : Xn P w K mg base (He.ga K "StillWanted") "name" := z_StillWanted T
  have Z_NoRound : X3 P w K mg base (He.ga K "NoRound") "first" "second" "side" := z_NoRound T
  have F_law_cell : Fn P w K mg base 4 (He.ga K "_law_cell") ["_law_script", "_law_k"] (ct_law_cell K) := ok_law_cell T
  have F_law_thing : Fn P w K mg base 4 (He.ga K "_law_thing") ["_law_cell_here", "_law_k"] (ct_law_thing K) := ok_law_thing T
  have F_law_named : Fn P w K mg base 4 (He.ga K "_law_named") ["_law_a"] (ct_law_named K) := ok_law_named T Z_BadDeed Z_BadLine Z_BadName Z_BadNumber Z_BadText Z_BadWalk Z_BadWord Z_Brought Z_Clash Z_NameTaken Z_NoLane Z_NoPattern Z_NoPost Z_NoRun Z_NotSure Z_NotWanted Z_OneRing Z_SameLane Z_StillWanted
  have F_law_classes : Fn P w K mg base 4 (He.ga K "_law_classes") ["_law_e"] (ct_law_classes K) := ok_law_classes T
  have F_law_alone : Fn P w K mg base 6 (He.ga K "_law_alone") ["_law_e", "_law_place"] (ct_law_alone K) := ok_law_alone T F_law_classes
  exact ok_law T F_law_cell F_law_thing F_law_named F_law_alone Z_NoRound F
end
end K01
open PySem PySem.W PySem.Calls PyProof.Rows
theorem PySem.Challenge.cw_alsoshown_k01_errors_made_holds : PySem.Challenge.rw_alsoshown_k01_errors_made.Holds := by
  w_on; o_law
  refine HandSHeadRun.head_any (r := K01.R) (q := K01.qv) (H := K01.hk) (ob := K01.ob) (M := 14000) (loose := K01.names) (d := HandSHeadRun.topDef K01.R.prog 34) (kwd := []) K01.ob_eq
    (by kernel_rfl) (fun s => by kernel_rfl) K01.run (by kernel_rfl) (by kernel_rfl) (by kernel_rfl) (by rfl) (by first | assumption | decide +kernel) (by decide +kernel) ⟨rfl, rfl, rfl, rfl, rfl, by decide +kernel⟩ ?hw ?hc
  case hw => w_witness2
  case hc =>
    refine DL.walk_D (l := PySem.Challenge.rw_alsoshown_k01_errors_made) (n := 63) (k := 8) (x := "_law_script") rfl (by decide) (by kernel_rfl) ⟨rfl, by decide, by decide⟩ ?F
    intro w mg fa h Y G hmg0
    obtain ⟨K, KX, c⟩ := Y
    have hmg : mg ("law" : PySem.Str) = some (.ref fa) := by
      have e : (HandSHeadRun.topDef K01.R.prog 34).name = ("law" : PySem.Str) := by kernel_rfl
      rw [← e]
      exact hmg0
    have T := K01.tx_of KX G c
    obtain ⟨fd, F⟩ := T.d_law
    have e := hmg.symm.trans T.g_law.1
    cases e
    exact ⟨K, K01.ct_law K, fd, KX, fun z ns hs => ⟨z, rfl, ns, hs, rfl, rfl⟩, fun s v => L2.FunD.bindsA (ps := ["_law_script"]) F (fun _ _ _ _ _ _ us hl => match us, hl with | [_], _ => rfl) s [v] rfl, fun base => K01.all_ok T F⟩


